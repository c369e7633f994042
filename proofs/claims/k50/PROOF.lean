import PyProof.Rows.All
import Wide.All
import OpenK.AllK
import Wide.FinOn
import KE.KStateDown
import HandS.ForMost
import HandS.Flow
import HandS.IsInst
import HandS.HeadHook2
import KE.KDictKeyed
import HandS.Lambda
import HandS.Defaults
import HandS.Zip
import HandS.Exc
import HandS.ExcCtx
import HandS.Deep
import HandS.TupAny
import HandS.TupMul
import KE.SortData
import HandS.DictComp
import HandS.Walk
import HandS.TupSets
import KE.KeyNested
import KE.DataCmp
import HandS.Style
import HandS.FStr
import HandS.RaiseMore
import PyProof.FitsInt
import HandS.TryOnly
import HandS.More
import HandS.Zip0
import PyProof.EnumMake
import PyProof.EnumFor
import HandS.Strs
import HandS.Words
import HandS.HeadHook1
import HandS.Wide
import Lean
import HandS.Ends
import HandS.WordsExc
import HandS.Head0
import HandS.Head1
import HandS.Head2
import HandS.HeadEnd
import HandS.Head3
import Open.Pieces
import HandS.MakeKwOnly
import HandS.ExcInit
import HandS.ClsMeth
import KE.KExcInit
import PyProof.ExcBaseAll.LookupError
import PyProof.ExcBaseAll.IndexError
import PyProof.ExcBaseAll.ValueError
import PyProof.ExcFactsAll.LookupError
import PyProof.ExcFactsAll.IndexError
import HandS.HotCalls
import KE.KTryMore
import HandS.ExcField
import HandS.HeadHook4
import HandS.EndOwn
import HandS.HeadWalk
import HandS.SetBool
import KE.KDictSum
import KE.KDictPairs
import PySem.Challenge.RW_whoseink_k50_deeds_of_a_form
import PyProof.StrOps2
import PyProof.FitsReplace
import PyProof.StrLawsOcc
import KE.KUnpackStar
import KE.GoesMore
import KE.KIntText
import KE.IntTextText
import PyProof.Rows.StrItems
set_option Elab.async false
set_option linter.all false
set_option maxRecDepth 100000
set_option maxHeartbeats 1000000
namespace L3
open PySem PySem.Spec PyProof.Rows L2
/-- a class of the text: its name, the fields of its instances in the order in which they are first stored -/
structure Cl where
  nm : Str
  fs : List Str
/-- data: what never changes, and references to what may -/
inductive D where
  | non | bl (b : Bool) | int (i : Int) | str (x : Str) | ty (n : String) | ref (a : Addr)
  | tup (xs : List D) | lst (xs : List D)
  /-- a list that is read alone (the script) -/
  | lsk (xs : List D)
  /-- a dict whose keys are numbers and texts -/
  | dct (ks : List L2.Key) (xs : List D)
  /-- an instance of a class of the text, the fields' data -/
  | obj (c : Cl) (xs : List D)
  /-- a dict whose keys are tuples of any depth -/
  | dkd (w : World) (ks xs : List D)
  /-- an exception that is handled: it, its dict, its fields -/
  | exc (a dd : Addr) (ns : List Str) (xs : List D)
  /-- a lambda: it, its code object, the code's name -/
  | fn (f c : Addr) (q : Str)
mutual
/-- .. truth values among them -/
def D.nkb : Nat → D → Bool
  | _, .non => true
  | _, .bl _ => true
  | _, .int _ => true
  | _, .str _ => true
  | n + 1, .tup ds => D.nkbs n ds
  | _, _ => false
def D.nkbs : Nat → List D → Bool
  | _, [] => true
  | n, d :: ds => D.nkb n d && D.nkbs n ds
end
mutual
def keyN : D → NestedKey
  | .bl b => .num (if b = true then 1 else 0)
  | .int i => .num i
  | .str x => .text x
  | .tup ds => .tup (keyNs ds)
  | _ => .none
def keyNs : List D → List NestedKey
  | [] => []
  | d :: ds => keyN d :: keyNs ds
end
/-- .. of a dict -/
def isKeyB (d : D) : Bool := match d with
  | .tup _ => D.nkb 8 d
  | _ => false
/-- an object that may change -/
inductive MO where
  | lst (xs : List D)
  | dct (ks : List L2.Key) (xs : List D)
  | ins (c : Cl) (xs : List D)
  | dkd (w : World) (ks xs : List D)
  /-- a table of code objects of one name -/
  | tbl (q : Str)
abbrev Mp := Addr → Option MO
def mupd (M : Mp) (a : Addr) (o : MO) : Mp := fun b => if b = a then some o else M b
def mdel (M : Mp) (a : Addr) : Mp := fun b => if b = a then none else M b
theorem mupd_same {M : Mp} {a : Addr} {o : MO} : mupd M a o a = some o := by unfold mupd; rw [if_pos rfl]
theorem mupd_ne {M : Mp} {a b : Addr} {o : MO} (h : b ≠ a) : mupd M a o b = M b := by unfold mupd; rw [if_neg h]
theorem mupd_mupd {M : Mp} {a : Addr} {o u : MO} : mupd (mupd M a o) a u = mupd M a u := by
  funext b; unfold mupd; split <;> rfl
theorem mupd_id {M : Mp} {a : Addr} {o : MO} (h : M a = some o) : mupd M a o = M := by
  funext b; unfold mupd; split
  · rename_i e; rw [e, h]
  · rfl
theorem mdel_same {M : Mp} {a : Addr} : mdel M a a = none := by unfold mdel; rw [if_pos rfl]
theorem mdel_ne {M : Mp} {a b : Addr} (h : b ≠ a) : mdel M a b = M b := by unfold mdel; rw [if_neg h]
theorem mdel_mupd {M : Mp} {a : Addr} {o : MO} (h : M a = none) : mdel (mupd M a o) a = M := by
  funext b; unfold mdel mupd; split
  · rename_i e; rw [e, h]
  · rfl
/-- a text of a size that the machine takes, of signs that there are -/
def SOk (x : Str) : Prop := x.length ≤ sizeLine ∧ ∀ c ∈ x.cps.toList, c < 0x110000
instance (x : Str) : Decidable (SOk x) := by unfold SOk; infer_instance
/-- the keys and the values of a dict -/
def KsOk (ks : List L2.Key) (ds : List D) : Prop := ks.length = ds.length ∧ ∀ x, Sum.inr x ∈ ks → SOk x
/-- a dict's rows: the key's tuple, the key, the value -/
abbrev DRow := Addr × D × V
def RowIs (w : World) (r : DRow) (e : DictEntry) : Prop := e.hash = (keyN r.2.1).hash w ∧ e.key = .ref r.1 ∧ RelV r.2.2 e.val
/-- the dict at a with these rows -/
def DkAt (w : World) (a : Addr) (Ls : List DRow) (h : Heap) : Prop := ((a == sysModules) = false ∧ Ls.length ≤ sizeLine ∧ (∀ r ∈ Ls, isKeyB r.2.1 = true) ∧ (Ls.map fun r => keyN r.2.1).Nodup) ∧ ∃ o es ep, h.get? a = some o ∧ o.ExactDict ∧ o.data = .dict es ep ∧ Paired (RowIs w) Ls es.toList
def DkO (w : World) (a : Addr) (Ls : List DRow) : HO := .ext (DkAt w a Ls)
mutual
def Rep (K : PySem.W.Frag) (F : Hp) : D → V → Prop
  | .non, v => v = .non
  | .bl b, v => v = .bl b
  | .int i, v => v = .int i
  | .str x, v => v = .str x ∧ SOk x
  | .ty n, v => v = .ty n
  | .ref a, v => v = .ref a
  | .tup ds, v => ∃ a xs, v = .ref a ∧ SqT K F a xs ∧ Reps K F ds xs
  | .lst ds, v => ∃ a xs, v = .ref a ∧ F a = some (.lst xs) ∧ Reps K F ds xs
  | .lsk ds, v => ∃ a xs, v = .ref a ∧ SqL K F a xs ∧ Reps K F ds xs
  | .dct ks ds, v => ∃ a o xs, v = .ref a ∧ F a = some (.frz o (.dK (ks.zip xs))) ∧ KsOk ks ds ∧ Reps K F ds xs
  | .obj c ds, v => ∃ a dx xs, v = .ref a ∧ F a = some (.ins (He.ga K c.nm) dx (c.fs.zip xs)) ∧ ds.length ≤ c.fs.length ∧ Reps K F ds xs
  | .dkd w ks ds, v => ∃ a o Ls, v = .ref a ∧ F a = some (.frz o (DkO w a Ls)) ∧ ks = Ls.map (·.2.1) ∧ Reps K F ks (Ls.map fun r => .ref r.1) ∧ Reps K F ds (Ls.map (·.2.2))
  | .exc a dd ns ds, v => v = .ref a ∧ ∃ xs, F dd = some (.xd (ns.zip xs)) ∧ ns.length = ds.length ∧ Reps K F ds xs
  | .fn f c q, v => v = .ref f ∧ F c = some (LamX.CodeO c q)
def Reps (K : PySem.W.Frag) (F : Hp) : List D → List V → Prop
  | [], xs => xs = []
  | d :: ds, xs => ∃ x r, xs = x :: r ∧ Rep K F d x ∧ Reps K F ds r
end
theorem Same.seqT {K : PySem.W.Frag} {H H' : Hp} {a : Addr} {xs : List V} (e : Same H H') (h : SqT K H a xs) : SqT K H' a xs := by
  rcases h with (h | ⟨o, h⟩) | h
  · exact .inl (.inl (e _ _ h))
  · exact .inl (.inr ⟨o, e _ _ h⟩)
  · exact .inr h
section
variable {K : PySem.W.Frag} {F F' : Hp}
mutual
theorem Rep.mono (s : Same F F') : ∀ {d : D} {v : V}, Rep K F d v → Rep K F' d v
  | .non, _, h => h
  | .bl _, _, h => h
  | .int _, _, h => h
  | .str _, _, h => h
  | .ty _, _, h => h
  | .ref _, _, h => h
  | .tup ds, _, ⟨a, xs, e, q, r⟩ => ⟨a, xs, e, Same.seqT s q, Reps.mono s r⟩
  | .lst ds, _, ⟨a, xs, e, q, r⟩ => ⟨a, xs, e, s _ _ q, Reps.mono s r⟩
  | .lsk ds, _, ⟨a, xs, e, q, r⟩ => ⟨a, xs, e, s.seq q, Reps.mono s r⟩
  | .dct ks ds, _, ⟨a, o, xs, e, q, l, r⟩ => ⟨a, o, xs, e, s _ _ q, l, Reps.mono s r⟩
  | .obj c ds, _, ⟨a, o, xs, e, q, l, r⟩ => ⟨a, o, xs, e, s _ _ q, l, Reps.mono s r⟩
  | .dkd w ks ds, _, ⟨a, o, Ls, e, q, l, r1, r2⟩ => ⟨a, o, Ls, e, s _ _ q, l, Reps.mono s r1, Reps.mono s r2⟩
  | .exc a dd ns ds, _, ⟨e, xs, q, l, r⟩ => ⟨e, xs, s _ _ q, l, Reps.mono s r⟩
  | .fn f c q, _, ⟨e, h⟩ => ⟨e, s _ _ h⟩
theorem Reps.mono (s : Same F F') : ∀ {ds : List D} {vs : List V}, Reps K F ds vs → Reps K F' ds vs
  | [], _, h => h
  | d :: ds, _, ⟨x, r, e, h1, h2⟩ => ⟨x, r, e, Rep.mono s h1, Reps.mono s h2⟩
end
theorem Reps.length : ∀ {ds : List D} {vs : List V}, Reps K F ds vs → ds.length = vs.length
  | [], _, h => by cases h; rfl
  | d :: ds, _, ⟨x, r, e, h1, h2⟩ => by subst e; simp [Reps.length h2]
theorem Reps.append : ∀ {ds es : List D} {vs ws : List V}, Reps K F ds vs → Reps K F es ws → Reps K F (ds ++ es) (vs ++ ws)
  | [], _, _, _, h, h' => by cases h; exact h'
  | d :: ds, es, _, ws, ⟨x, r, e, h1, h2⟩, h' => by subst e; exact ⟨x, r ++ ws, rfl, h1, Reps.append h2 h'⟩
theorem Reps.one {d : D} {v : V} (h : Rep K F d v) : Reps K F [d] [v] := ⟨v, [], rfl, h, rfl⟩
theorem Reps.take : ∀ {ds : List D} {vs : List V} (n : Nat), Reps K F ds vs → Reps K F (ds.take n) (vs.take n)
  | _, _, 0, _ => by simp [Reps]
  | [], _, _ + 1, h => by cases h; simp [Reps]
  | d :: ds, _, n + 1, ⟨x, r, e, h1, h2⟩ => by subst e; exact ⟨x, r.take n, rfl, h1, Reps.take n h2⟩
theorem Reps.drop : ∀ {ds : List D} {vs : List V} (n : Nat), Reps K F ds vs → Reps K F (ds.drop n) (vs.drop n)
  | _, _, 0, h => h
  | [], _, _ + 1, h => by cases h; simp [Reps]
  | d :: ds, _, n + 1, ⟨x, r, e, h1, h2⟩ => by subst e; exact Reps.drop n h2
theorem Reps.get : ∀ {ds : List D} {vs : List V} {i : Nat} {d : D}, Reps K F ds vs → ds[i]? = some d → ∃ v, vs[i]? = some v ∧ Rep K F d v
  | [], _, _, _, _, h => by simp at h
  | d :: ds, _, 0, _, ⟨x, r, e, h1, h2⟩, h => by subst e; simp at h; subst h; exact ⟨x, rfl, h1⟩
  | d :: ds, _, i + 1, _, ⟨x, r, e, h1, h2⟩, h => by
    subst e
    obtain ⟨v, hv, hr⟩ := Reps.get (i := i) h2 (by simpa using h)
    exact ⟨v, by simpa using hv, hr⟩
theorem Reps.set : ∀ {ds : List D} {vs : List V} {d : D} {v : V} (i : Nat), Rep K F d v → Reps K F ds vs → Reps K F (ds.set i d) (vs.set i v)
  | [], _, _, _, _, _, h => by cases h; simp [Reps]
  | _ :: ds, _, _, _, 0, hd, ⟨x, r, e, h1, h2⟩ => by subst e; exact ⟨_, r, rfl, hd, h2⟩
  | _ :: ds, _, _, _, i + 1, hd, ⟨x, r, e, h1, h2⟩ => by subst e; exact ⟨x, _, rfl, h1, Reps.set i hd h2⟩
theorem Reps.reverse : ∀ {ds : List D} {vs : List V}, Reps K F ds vs → Reps K F ds.reverse vs.reverse
  | [], _, h => by cases h; simp [Reps]
  | d :: ds, _, ⟨x, r, e, h1, h2⟩ => by subst e; simp only [List.reverse_cons]; exact Reps.append (Reps.reverse h2) (Reps.one h1)
theorem Reps.isEmpty : ∀ {ds : List D} {vs : List V}, Reps K F ds vs → ds.isEmpty = vs.isEmpty
  | [], _, h => by cases h; rfl
  | d :: ds, _, ⟨x, r, e, h1, h2⟩ => by subst e; rfl
theorem Reps.ofInts : ∀ (ns : List Int), Reps K F (ns.map D.int) (ns.map V.int)
  | [] => rfl
  | n :: ns => ⟨.int n, _, rfl, rfl, Reps.ofInts ns⟩
theorem Reps.strs : ∀ {zs : List Str} {vs : List V}, Reps K F (zs.map D.str) vs → vs = zs.map V.str
  | [], _, h => h
  | n :: ns, _, ⟨x, r, e, h1, h2⟩ => by subst e; rw [Reps.strs h2, show x = V.str n from h1.1]; rfl
theorem Reps.bls : ∀ {zs : List Bool} {vs : List V}, Reps K F (zs.map D.bl) vs → vs = zs.map V.bl
  | [], _, h => h
  | n :: ns, _, ⟨x, r, e, h1, h2⟩ => by subst e; rw [Reps.bls h2, show x = V.bl n from h1]; rfl
end
def findK : List L2.Key → List D → L2.Key → Option D
  | k :: ks, d :: ds, j => if k = j then some d else findK ks ds j
  | _, _, _ => none
/-- a table with one row set: in its place, or at the end -/
def setK (ks : List L2.Key) (ds : List D) (j : L2.Key) (e : D) : List D := if (ks.any fun k => decide (k = j)) = true then List.zipWith (fun k d => if k = j then e else d) ks ds else ds ++ [e]
def addK (ks : List L2.Key) (j : L2.Key) : List L2.Key := if (ks.any fun k => decide (k = j)) = true then ks else ks ++ [j]
theorem isEmpty_zip {α β : Type} {xs : List α} {ys : List β} (h : xs.length = ys.length) : (xs.zip ys).isEmpty = xs.isEmpty := by
  cases xs <;> cases ys <;> simp at h ⊢
theorem findK_some {K : PySem.W.Frag} {F : Hp} : ∀ {ks : List L2.Key} {ds : List D} {xs : List V} {j : L2.Key}, ks.length = ds.length → Reps K F ds xs →
    (∀ d, findK ks ds j = some d → ∃ v, valV (ks.zip xs) j = some v ∧ Rep K F d v) ∧ (findK ks ds j = none → valV (ks.zip xs) j = none)
  | [], ds, xs, j, _, _ => ⟨fun d h => by simp [findK] at h, fun _ => rfl⟩
  | k :: ks, [], xs, j, h, _ => by simp at h
  | k :: ks, d :: ds, _, j, h, ⟨x, r, e, h1, h2⟩ => by
    subst e
    obtain ⟨i1, i2⟩ := findK_some (j := j) (by simpa using h) h2
    by_cases hk : k = j
    · refine ⟨fun g hg => ?_, fun hg => ?_⟩
      · simp only [findK, if_pos hk, Option.some.injEq] at hg
        exact ⟨x, valV_pos (p := (k, x)) hk, hg ▸ h1⟩
      · simp [findK, if_pos hk] at hg
    · refine ⟨fun g hg => ?_, fun hg => ?_⟩
      · simp only [findK, if_neg hk] at hg
        obtain ⟨v, a, b⟩ := i1 g hg
        exact ⟨v, by rw [List.zip_cons_cons, valV_neg (p := (k, x)) hk]; exact a, b⟩
      · simp only [findK, if_neg hk] at hg
        rw [List.zip_cons_cons, valV_neg (p := (k, x)) hk]; exact i2 hg
theorem setK_len {ks : List L2.Key} {ds : List D} {j : L2.Key} {e : D} (h : ks.length = ds.length) : (addK ks j).length = (setK ks ds j e).length := by
  unfold addK setK
  split
  · rw [List.length_zipWith, ← h, Nat.min_self]
  · simp [h]
theorem any_zip {k : L2.Key} : ∀ {ks : List L2.Key} {xs : List V}, ks.length = xs.length → ((ks.zip xs).any fun kv => decide (kv.1 = k)) = ks.any fun j => decide (j = k)
  | [], _, _ => by simp
  | _ :: _, [], h => by simp at h
  | j :: ks, x :: xs, h => by simp [any_zip (ks := ks) (xs := xs) (by simpa using h)]
theorem setK_zip {K : PySem.W.Frag} {F : Hp} {ks : List L2.Key} {ds : List D} {xs : List V} {j : L2.Key} {e : D} {v : V} (h : ks.length = ds.length) (r : Reps K F ds xs) (r1 : Rep K F e v) :
    ∃ ys, putK (ks.zip xs) j v = (addK ks j).zip ys ∧ Reps K F (setK ks ds j e) ys := by
  have hx : ks.length = xs.length := h.trans r.length
  unfold putK addK setK
  rw [any_zip hx]
  split
  · have key : ∀ {ks : List L2.Key} {ds : List D} {xs : List V}, ks.length = ds.length → Reps K F ds xs → ∃ ys, ((ks.zip xs).map fun kv => if kv.1 = j then (kv.1, v) else kv) = ks.zip ys ∧ Reps K F (List.zipWith (fun k d => if k = j then e else d) ks ds) ys := by
      intro ks
      induction ks with
      | nil => intro ds xs _ _; exact ⟨[], rfl, rfl⟩
      | cons k ks ih =>
        intro ds xs h r
        cases ds with
        | nil => simp at h
        | cons d ds =>
          obtain ⟨x, rr, rfl, h1, h2⟩ := r
          obtain ⟨ys, e1, e2⟩ := ih (by simpa using h) h2
          by_cases hk : k = j
          · exact ⟨v :: ys, by rw [List.zip_cons_cons, List.map_cons, e1, if_pos (show (k, x).1 = j from hk)]; rfl, v, ys, rfl, by show Rep K F (if k = j then e else d) v; rw [if_pos hk]; exact r1, e2⟩
          · exact ⟨x :: ys, by rw [List.zip_cons_cons, List.map_cons, e1, if_neg (show ¬ (k, x).1 = j from hk)]; rfl, x, ys, rfl, by show Rep K F (if k = j then e else d) x; rw [if_neg hk]; exact h1, e2⟩
    exact key h r
  · exact ⟨xs ++ [v], by rw [List.zip_append hx]; rfl, r.append (Reps.one r1)⟩
def keyD : D → Option L2.Key
  | .int i => some (.inl i)
  | .str x => some (.inr x)
  | _ => none
theorem keyD_ok {K : PySem.W.Frag} {F : Hp} {d : D} {k : L2.Key} {v : V} (r : Rep K F d v) (h : keyD d = some k) : v = kV k := by
  cases d with
  | int i => cases h; exact r
  | str x => cases h; exact r.1
  | _ => cases h
theorem keyD_sok {K : PySem.W.Frag} {F : Hp} {d : D} {k : L2.Key} {v : V} (r : Rep K F d v) (h : keyD d = some k) : ∀ x, Sum.inr x = k → SOk x := by
  cases d with
  | int i => cases h; intro x e; cases e
  | str x => cases h; intro y e; cases e; exact r.2
  | _ => cases h
theorem KsOk.set {ks : List L2.Key} {ds : List D} {j : L2.Key} {e : D} (h : KsOk ks ds) (hj : ∀ x, Sum.inr x = j → SOk x) : KsOk (addK ks j) (setK ks ds j e) := by
  refine ⟨setK_len h.1, fun x hx => ?_⟩
  unfold addK at hx
  split at hx
  · exact h.2 x hx
  · rcases List.mem_append.mp hx with hx | hx
    · exact h.2 x hx
    · exact hj x (List.mem_singleton.mp hx)
/-- an object that may change, as it is tracked at p -/
def RepO (K : PySem.W.Frag) (F : Hp) (p : Addr) : MO → HO → Prop
  | .lst ds, u => ∃ xs, u = .lst xs ∧ Reps K F ds xs
  | .dct ks ds, u => ∃ xs, u = .dK (ks.zip xs) ∧ KsOk ks ds ∧ Reps K F ds xs
  | .ins c ds, u => ∃ dx xs, u = .ins (He.ga K c.nm) dx (c.fs.zip xs) ∧ ds.length ≤ c.fs.length ∧ Reps K F ds xs
  | .dkd w ks ds, u => ∃ Ls, u = DkO w p Ls ∧ ks = Ls.map (·.2.1) ∧ Reps K F ks (Ls.map fun r => .ref r.1) ∧ Reps K F ds (Ls.map (·.2.2))
  | .tbl q, u => ∃ ps, u = .tbl ps ∧ TriplesOk ps.toList ∧ ∀ (pos : Pos) (cv : Value), codeAmong pos ps.toList = some cv → ∃ c, cv = .ref c ∧ F c = some (LamX.CodeO c q)
theorem RepO.mono {K : PySem.W.Frag} {F F' : Hp} {p : Addr} (s : Same F F') : ∀ {o : MO} {u : HO}, RepO K F p o u → RepO K F' p o u
  | .lst _, _, ⟨xs, e, r⟩ => ⟨xs, e, r.mono s⟩
  | .dct _ _, _, ⟨xs, e, l, r⟩ => ⟨xs, e, l, r.mono s⟩
  | .ins _ _, _, ⟨dx, xs, e, l, r⟩ => ⟨dx, xs, e, l, r.mono s⟩
  | .dkd _ _ _, _, ⟨Ls, e, l, r1, r2⟩ => ⟨Ls, e, l, r1.mono s, r2.mono s⟩
  | .tbl _, _, ⟨ps, e, l, r⟩ => ⟨ps, e, l, fun pos cv h => by
    obtain ⟨c, h1, h2⟩ := r pos cv h
    exact ⟨c, h1, s _ _ h2⟩⟩
/-- the heap is parted into F (frozen), M (may change), R (another's, kept as it is), and what nobody asks for -/
structure At (K : PySem.W.Frag) (R F : Hp) (M : Mp) (H : Hp) : Prop where
  fz : Same F H
  mu : ∀ a o, M a = some o → F a = none ∧ ∃ u, H a = some u ∧ RepO K F a o u
  fr : ∀ a o, R a = some o → F a = none ∧ M a = none ∧ H a = some o
section
variable {K : PySem.W.Frag} {R F F' : Hp} {M : Mp} {H : Hp} {p : Addr}
theorem At.freeF (a : At K R F M H) (h : H p = none) : F p = none := by
  cases e : F p with
  | none => rfl
  | some o => rw [a.fz _ _ e] at h; cases h
theorem At.freeM (a : At K R F M H) (h : H p = none) : M p = none := by
  cases e : M p with
  | none => rfl
  | some o => obtain ⟨_, u, q, _⟩ := a.mu _ _ e; rw [q] at h; cases h
theorem At.freeR (a : At K R F M H) (h : H p = none) : R p = none := by
  cases e : R p with
  | none => rfl
  | some o => rw [(a.fr _ _ e).2.2] at h; cases h
theorem same_upd {F : Hp} {o : HO} (h : F p = none) : Same F (upd F p o) := fun b u e => by
  rw [upd_ne (ne_of_none e h)]; exact e
/-- a new frozen object -/
theorem At.laid (a : At K R F M H) (h : H p = none) (o : HO) : At K R (upd F p o) M (upd H p o) ∧ Same F (upd F p o) := by
  have hF := a.freeF h
  refine ⟨⟨fun b u e => ?_, fun b u e => ?_, fun b u e => ?_⟩, same_upd hF⟩
  · by_cases hb : b = p
    · subst hb; rw [upd_same] at e ⊢; exact e
    · rw [upd_ne hb] at e ⊢; exact a.fz _ _ e
  · obtain ⟨h1, v, h2, h3⟩ := a.mu _ _ e
    have hb : b ≠ p := ne_of_none h2 h
    exact ⟨by rw [upd_ne hb]; exact h1, v, by rw [upd_ne hb]; exact h2, h3.mono (same_upd hF)⟩
  · have hb : b ≠ p := ne_of_none e (a.freeR h)
    rw [upd_ne hb, upd_ne hb]; exact a.fr _ _ e
/-- a new object that may change -/
theorem At.born (a : At K R F M H) (h : H p = none) {o : MO} {u : HO} (r : RepO K F p o u) : At K R F (mupd M p o) (upd H p u) := by
  refine ⟨fun b v e => ?_, fun b v e => ?_, fun b v e => ?_⟩
  · have hb : b ≠ p := fun z => by subst z; rw [a.freeF h] at e; cases e
    rw [upd_ne hb]; exact a.fz _ _ e
  · by_cases hb : b = p
    · subst hb; rw [mupd_same] at e; cases e; exact ⟨a.freeF h, u, upd_same, r⟩
    · rw [mupd_ne hb] at e; rw [upd_ne hb]; exact a.mu _ _ e
  · have hb : b ≠ p := ne_of_none e (a.freeR h)
    rw [upd_ne hb, mupd_ne hb]; exact a.fr _ _ e
/-- a new cell that nobody asks for -/
theorem At.skip (a : At K R F M H) (h : H p = none) (u : HO) : At K R F M (upd H p u) := by
  refine ⟨fun b v e => ?_, fun b v e => ?_, fun b v e => ?_⟩
  · have hb : b ≠ p := fun z => by subst z; rw [a.freeF h] at e; cases e
    rw [upd_ne hb]; exact a.fz _ _ e
  · have hb : b ≠ p := fun z => by subst z; rw [a.freeM h] at e; cases e
    rw [upd_ne hb]; exact a.mu _ _ e
  · have hb : b ≠ p := fun z => by subst z; rw [a.freeR h] at e; cases e
    rw [upd_ne hb]; exact a.fr _ _ e
/-- an object changes -/
theorem At.wrote (a : At K R F M H) {o' o : MO} {u : HO} (h : M p = some o') (r : RepO K F p o u) : At K R F (mupd M p o) (upd H p u) := by
  obtain ⟨hF, _⟩ := a.mu _ _ h
  refine ⟨fun b v e => ?_, fun b v e => ?_, fun b v e => ?_⟩
  · have hb : b ≠ p := fun z => by subst z; rw [hF] at e; cases e
    rw [upd_ne hb]; exact a.fz _ _ e
  · by_cases hb : b = p
    · subst hb; rw [mupd_same] at e; cases e; exact ⟨hF, u, upd_same, r⟩
    · rw [mupd_ne hb] at e; rw [upd_ne hb]; exact a.mu _ _ e
  · have hb : b ≠ p := fun z => by subst z; rw [(a.fr _ _ e).2.1] at h; cases h
    rw [upd_ne hb, mupd_ne hb]; exact a.fr _ _ e
/-- an object is frozen -/
theorem At.freeze (a : At K R F M H) {o : MO} (h : M p = some o) : ∃ u, RepO K F p o u ∧ At K R (upd F p u) (mdel M p) H ∧ Same F (upd F p u) := by
  obtain ⟨hF, u, hH, r⟩ := a.mu _ _ h
  refine ⟨u, r, ⟨fun b v e => ?_, fun b v e => ?_, fun b v e => ?_⟩, same_upd hF⟩
  · by_cases hb : b = p
    · subst hb; rw [upd_same] at e; cases e; exact hH
    · rw [upd_ne hb] at e; exact a.fz _ _ e
  · have hb : b ≠ p := fun z => by subst z; rw [mdel_same] at e; cases e
    rw [mdel_ne hb] at e
    obtain ⟨h1, v, h2, h3⟩ := a.mu _ _ e
    exact ⟨by rw [upd_ne hb]; exact h1, v, h2, h3.mono (same_upd hF)⟩
  · have hb : b ≠ p := fun z => by subst z; rw [(a.fr _ _ e).2.1] at h; cases h
    rw [upd_ne hb, mdel_ne hb]; exact a.fr _ _ e
/-- an object is frozen, and its cell is written anew -/
theorem At.freezeAs (a : At K R F M H) {o : MO} (h : M p = some o) (u' : HO) : At K R (upd F p u') (mdel M p) (upd H p u') ∧ Same F (upd F p u') := by
  obtain ⟨hF, u, hH, r⟩ := a.mu _ _ h
  refine ⟨⟨fun b v e => ?_, fun b v e => ?_, fun b v e => ?_⟩, same_upd hF⟩
  · by_cases hb : b = p
    · subst hb; rw [upd_same] at e ⊢; exact e
    · rw [upd_ne hb] at e ⊢; exact a.fz _ _ e
  · have hb : b ≠ p := fun z => by subst z; rw [mdel_same] at e; cases e
    rw [mdel_ne hb] at e
    obtain ⟨h1, v, h2, h3⟩ := a.mu _ _ e
    exact ⟨by rw [upd_ne hb]; exact h1, v, by rw [upd_ne hb]; exact h2, h3.mono (same_upd hF)⟩
  · have hb : b ≠ p := fun z => by subst z; rw [(a.fr _ _ e).2.1] at h; cases h
    rw [upd_ne hb, mdel_ne hb, upd_ne hb]; exact a.fr _ _ e
/-- a cell that nobody has becomes another's -/
theorem At.lend (a : At K R F M H) (h : H p = none) (u : HO) : At K (upd R p u) F M (upd H p u) := by
  refine ⟨fun b v e => ?_, fun b v e => ?_, fun b v e => ?_⟩
  · have hb : b ≠ p := ne_of_none e (a.freeF h)
    rw [upd_ne hb]; exact a.fz _ _ e
  · have hb : b ≠ p := fun z => by subst z; rw [a.freeM h] at e; cases e
    rw [upd_ne hb]; exact a.mu _ _ e
  · by_cases hb : b = p
    · subst hb; rw [upd_same] at e ⊢; exact ⟨a.freeF h, a.freeM h, e⟩
    · rw [upd_ne hb] at e ⊢; exact a.fr _ _ e
/-- .. and changes -/
theorem At.relend {u : HO} (a : At K (upd R p u) F M H) (u' : HO) : At K (upd R p u') F M (upd H p u') := by
  obtain ⟨h1, h2, h3⟩ := a.fr p u upd_same
  refine ⟨fun b v e => ?_, fun b v e => ?_, fun b v e => ?_⟩
  · have hb : b ≠ p := ne_of_none e h1
    rw [upd_ne hb]; exact a.fz _ _ e
  · have hb : b ≠ p := fun z => by subst z; rw [h2] at e; cases e
    rw [upd_ne hb]; exact a.mu _ _ e
  · by_cases hb : b = p
    · subst hb; rw [upd_same] at e ⊢; exact ⟨h1, h2, e⟩
    · rw [upd_ne hb] at e ⊢; exact a.fr _ _ (by rw [upd_ne hb]; exact e)
/-- .. and is frozen -/
theorem At.takeF {u : HO} (a : At K (upd R p u) F M H) (hR : R p = none) : At K R (upd F p u) M H ∧ Same F (upd F p u) := by
  obtain ⟨h1, h2, h3⟩ := a.fr p u upd_same
  refine ⟨⟨fun b v e => ?_, fun b v e => ?_, fun b v e => ?_⟩, same_upd h1⟩
  · by_cases hb : b = p
    · subst hb; rw [upd_same] at e; cases e; exact h3
    · rw [upd_ne hb] at e; exact a.fz _ _ e
  · have hb : b ≠ p := fun z => by subst z; rw [h2] at e; cases e
    obtain ⟨z1, v, z2, z3⟩ := a.mu _ _ e
    exact ⟨by rw [upd_ne hb]; exact z1, v, z2, z3.mono (same_upd h1)⟩
  · have hb : b ≠ p := ne_of_none e hR
    rw [upd_ne hb]; exact a.fr _ _ (by rw [upd_ne hb]; exact e)
/-- .. or stands as an object that may change -/
theorem At.takeM {u : HO} {o : MO} (a : At K (upd R p u) F M H) (hR : R p = none) (r : RepO K F p o u) : At K R F (mupd M p o) H := by
  obtain ⟨h1, h2, h3⟩ := a.fr p u upd_same
  refine ⟨a.fz, fun b v e => ?_, fun b v e => ?_⟩
  · by_cases hb : b = p
    · subst hb; rw [mupd_same] at e; cases e; exact ⟨h1, u, h3, r⟩
    · rw [mupd_ne hb] at e; exact a.mu _ _ e
  · have hb : b ≠ p := ne_of_none e hR
    rw [mupd_ne hb]; exact a.fr _ _ (by rw [upd_ne hb]; exact e)
end
abbrev DEnv := List (Option D)
structure EnvR (K : PySem.W.Frag) (F : Hp) (σ : L2.St) (env : DEnv) : Prop where
  len : σ.length = env.length
  get : ∀ (i : Nat) (d : D), env[i]? = some (some d) → ∃ v, σ[i]? = some (some v) ∧ Rep K F d v
section
variable {K : PySem.W.Frag} {F F' : Hp} {σ : L2.St} {env : DEnv}
theorem EnvR.mono (s : Same F F') (e : EnvR K F σ env) : EnvR K F' σ env := ⟨e.len, fun i d h => by
  obtain ⟨v, h1, h2⟩ := e.get i d h
  exact ⟨v, h1, h2.mono s⟩⟩
theorem EnvR.set (e : EnvR K F σ env) {d : D} {v : V} (i : Nat) (r : Rep K F d v) : EnvR K F (σ.set i (some v)) (env.set i (some d)) := by
  refine ⟨by simp [e.len], fun j g h => ?_⟩
  by_cases hj : i = j
  · subst hj
    by_cases hi : i < env.length
    · rw [List.getElem?_set_self hi] at h
      cases h
      exact ⟨v, List.getElem?_set_self (by rw [e.len]; exact hi), r⟩
    · rw [List.getElem?_eq_none (by simpa using hi)] at h; cases h
  · rw [List.getElem?_set_ne hj] at h ⊢
    exact e.get j g h
theorem EnvR.forget (e : EnvR K F σ env) (i : Nat) : EnvR K F (σ.set i none) (env.set i none) := by
  refine ⟨by simp [e.len], fun j g h => ?_⟩
  by_cases hj : i = j
  · subst hj
    by_cases hi : i < env.length
    · rw [List.getElem?_set_self hi] at h; cases h
    · rw [List.getElem?_eq_none (by simpa using hi)] at h; cases h
  · rw [List.getElem?_set_ne hj] at h ⊢
    exact e.get j g h
end
def wipeD (env : DEnv) : List Nat → DEnv
  | [] => env
  | v :: vs => (wipeD env vs).set v none
theorem EnvR.wipe {K : PySem.W.Frag} {F : Hp} {σ : L2.St} {env : DEnv} (e : EnvR K F σ env) : ∀ vs : List Nat, EnvR K F (wipe σ vs) (wipeD env vs)
  | [] => e
  | v :: vs => (EnvR.wipe e vs).forget v
/-- two ways -/
def brn (c : Bool) (A B : Prop) : Prop := match c with
  | true => A
  | false => B
theorem brn_t {A B : Prop} : brn true A B = A := rfl
theorem brn_f {A B : Prop} : brn false A B = B := rfl
theorem brn_by {c : Bool} {A B : Prop} (h1 : c = true → A) (h2 : c = false → B) : brn c A B := by
  cases c with
  | true => exact h1 rfl
  | false => exact h2 rfl
abbrev DK := D → Mp → Prop
abbrev DE := DEnv → Mp → DK → Prop
abbrev DT := DEnv → Mp → (Bool → Mp → Prop) → Prop
abbrev DA := DEnv → Mp → (List D → Mp → Prop) → Prop
structure DEnds where
  nx : DEnv → Mp → Prop
  rt : DK
  bk : DEnv → Mp → Prop := fun _ _ => False
  ct : DEnv → Mp → Prop := fun _ _ => False
abbrev DS := DEnds → DEnv → Mp → Prop
/-- what is wanted of a value, by data -/
def KD (K : PySem.W.Frag) (R F : Hp) (Qd : DK) (Q : VK) : Prop := ∀ F' H' M' d v, Same F F' → At K R F' M' H' → Rep K F' d v → Qd d M' → Q v H'
def KT (K : PySem.W.Frag) (R F : Hp) (Qd : Bool → Mp → Prop) (Q : Bool → Hp → Prop) : Prop := ∀ F' H' M' b, Same F F' → At K R F' M' H' → Qd b M' → Q b H'
def KA (K : PySem.W.Frag) (R F : Hp) (n : Nat) (Qd : List D → Mp → Prop) (Q : List V → Hp → Prop) : Prop := ∀ F' H' M' ds vs, Same F F' → At K R F' M' H' → Reps K F' ds vs → ds.length = n → Qd ds M' → Q vs H'
def KN (K : PySem.W.Frag) (R F : Hp) (Qd : DEnv → Mp → Prop) (Q : L2.St → Hp → Prop) : Prop := ∀ F' H' M' env σ, Same F F' → At K R F' M' H' → EnvR K F' σ env → Qd env M' → Q σ H'
theorem KD.mono {K : PySem.W.Frag} {R F F1 : Hp} {Qd : DK} {Q : VK} (k : KD K R F Qd Q) (s : Same F F1) : KD K R F1 Qd Q := fun F' H' M' d v s' => k F' H' M' d v (s.trans s')
theorem KT.mono {K : PySem.W.Frag} {R F F1 : Hp} {Qd : Bool → Mp → Prop} {Q : Bool → Hp → Prop} (k : KT K R F Qd Q) (s : Same F F1) : KT K R F1 Qd Q := fun F' H' M' d s' => k F' H' M' d (s.trans s')
theorem KA.mono {K : PySem.W.Frag} {R F F1 : Hp} {n : Nat} {Qd : List D → Mp → Prop} {Q : List V → Hp → Prop} (k : KA K R F n Qd Q) (s : Same F F1) : KA K R F1 n Qd Q := fun F' H' M' d v s' => k F' H' M' d v (s.trans s')
theorem KN.mono {K : PySem.W.Frag} {R F F1 : Hp} {Qd : DEnv → Mp → Prop} {Q : L2.St → Hp → Prop} (k : KN K R F Qd Q) (s : Same F F1) : KN K R F1 Qd Q := fun F' H' M' d v s' => k F' H' M' d v (s.trans s')
structure KE (K : PySem.W.Frag) (R F : Hp) (Dd : DEnds) (D : Ends) : Prop where
  nx : KN K R F Dd.nx D.nx
  rt : KD K R F Dd.rt D.rt
  bk : KN K R F Dd.bk D.bk
  ct : KN K R F Dd.ct D.ct
theorem KE.mono {K : PySem.W.Frag} {R F F1 : Hp} {Dd : DEnds} {D : Ends} (k : KE K R F Dd D) (s : Same F F1) : KE K R F1 Dd D := ⟨k.nx.mono s, k.rt.mono s, k.bk.mono s, k.ct.mono s⟩
def up (K : PySem.W.Frag) (t : DE) : TE := fun σ H Q => ∃ R F env M Qd, At K R F M H ∧ EnvR K F σ env ∧ t env M Qd ∧ KD K R F Qd Q
def upT (K : PySem.W.Frag) (t : DT) : TT := fun σ H Q => ∃ R F env M Qd, At K R F M H ∧ EnvR K F σ env ∧ t env M Qd ∧ KT K R F Qd Q
def upA (K : PySem.W.Frag) (n : Nat) (t : DA) : TA := fun σ H Q => ∃ R F env M Qd, At K R F M H ∧ EnvR K F σ env ∧ t env M Qd ∧ KA K R F n Qd Q
def upS (K : PySem.W.Frag) (t : DS) : TS := fun D σ H => ∃ R F env M Dd, At K R F M H ∧ EnvR K F σ env ∧ t Dd env M ∧ KE K R F Dd D
abbrev PDE (X : Cx) (e : Expr) (t : DE) : Prop := PE X e (up X.K t)
abbrev PDT (X : Cx) (e : Expr) (t : DT) : Prop := PT X e (upT X.K t)
abbrev PDA (X : Cx) (es : List Expr) (t : DA) : Prop := PA X es (upA X.K es.length t)
abbrev PDS (X : Cx) (st : Stmt) (t : DS) : Prop := PS X st (upS X.K t)
abbrev PDSs (X : Cx) (st : List Stmt) (t : DS) : Prop := PSs X st (upS X.K t)
section
variable {X : Cx}
theorem pe_imp {e : Expr} {t t' : TE} (h : PE X e t) (i : ∀ σ H Q, t' σ H Q → t σ H Q) : PE X e t' := ⟨fun pins s σ H Q I q => h.run pins s σ H Q I (i _ _ _ q)⟩
theorem pt_imp {e : Expr} {t t' : TT} (h : PT X e t) (i : ∀ σ H Q, t' σ H Q → t σ H Q) : PT X e t' := ⟨fun pins s σ H Q I q => h.run pins s σ H Q I (i _ _ _ q)⟩
theorem pw_imp {e : Expr} {t t' : TT} (h : PW X e t) (i : ∀ σ H Q, t' σ H Q → t σ H Q) : PW X e t' := ⟨fun wh pins s σ H Q I q => h.run wh pins s σ H Q I (i _ _ _ q)⟩
theorem pa_imp {es : List Expr} {t t' : TA} (h : PA X es t) (i : ∀ σ H Q, t' σ H Q → t σ H Q) : PA X es t' := ⟨fun pos pins s σ H Q I q => h.run pos pins s σ H Q I (i _ _ _ q)⟩
theorem ps_imp {st : Stmt} {t t' : TS} (h : PS X st t) (i : ∀ D σ H, t' D σ H → t D σ H) : PS X st t' := ⟨fun pins s σ H D I q => h.run pins s σ H D I (i _ _ _ q)⟩
theorem pss_imp {st : List Stmt} {t t' : TS} (h : PSs X st t) (i : ∀ D σ H, t' D σ H → t D σ H) : PSs X st t' := ⟨fun pins s σ H D I q => h.run pins s σ H D I (i _ _ _ q)⟩
def dVar (i : Nat) : DE := fun env M Q => match env[i]? with
  | some (some d) => Q d M
  | _ => False
theorem dv (i : Nat) {x : Str} {pos : Pos} (hN : X.N[i]? = some x := by rfl) (hv : Vis X.env.scope x := by first | exact Or.inl rfl | exact Or.inr (Or.inl rfl) | exact Or.inr (Or.inr rfl)) (hd : (x == ("__debug__" : Str)) = false := by decide)
    (hcd : (x == ("__classdict__" : Str)) = false := by decide) : PDE X (.Name x pos) (dVar i) := by
  refine pe_imp (pe_var hN hv hd hcd) fun σ H Q ⟨R, F, env, M, Qd, a, e, h, k⟩ => ?_
  unfold dVar at h
  split at h
  · rename_i d hi
    obtain ⟨v, h1, h2⟩ := e.get i d hi
    exact ⟨v, h1, k F H M d v (Same.refl F) a h2 h⟩
  · exact h.elim
def dC (d : D) : DE := fun _ M Q => Q d M
theorem upC {K : PySem.W.Frag} {d : D} {v : V} (hr : ∀ F, Rep K F d v) : ∀ σ H Q, up K (dC d) σ H Q → tC v σ H Q := fun σ H Q ⟨R, F, env, M, Qd, a, e, h, k⟩ => k F H M d v (Same.refl F) a (hr F) h
theorem pd_int {i j pos} : PDE X (.Constant (.int i) j pos) (dC (.int i)) := pe_imp pe_int (upC fun _ => rfl)
theorem pd_bl {b j pos} : PDE X (.Constant (.bool b) j pos) (dC (.bl b)) := pe_imp pe_bl (upC fun _ => rfl)
theorem pd_non {j pos} : PDE X (.Constant .none j pos) (dC .non) := pe_imp pe_non (upC fun _ => rfl)
theorem pd_str {x j pos} (h : SOk x := by decide +kernel) : PDE X (.Constant (.str x) j pos) (dC (.str x)) := pe_imp pe_str (upC fun _ => ⟨rfl, h⟩)
abbrev R2D := D → D → Mp → DK → Prop
def dBin (r : R2D) (ta tb : DE) : DE := fun env M Q => ta env M fun x M1 => tb env M1 fun y M2 => r x y M2 Q
/-- a rule on values serves a rule on data -/
def Serves2 (K : PySem.W.Frag) (r : R2D) (rV : R2) : Prop := ∀ R F M H d e x y Qd Q, At K R F M H → Rep K F d x → Rep K F e y → r d e M Qd → KD K R F Qd Q → rV x y H Q
theorem up_bin {K : PySem.W.Frag} {r : R2D} {rV : R2} {ta tb : DE} (hs : Serves2 K r rV) : ∀ σ H Q, up K (dBin r ta tb) σ H Q → tOp rV (up K ta) (up K tb) σ H Q := fun σ H Q ⟨R, F, env, M, Qd, a, e, h, k⟩ =>
  ⟨R, F, env, M, _, a, e, h, fun F1 H1 M1 d v s1 a1 r1 h1 => ⟨R, F1, env, M1, _, a1, e.mono s1, h1, fun F2 H2 M2 d2 v2 s2 a2 r2 h2 => hs R F2 M2 H2 d d2 v v2 Qd Q a2 (r1.mono s2) r2 h2 (k.mono (s1.trans s2))⟩⟩
structure OpD (X : Cx) (f : Value → Value → Sem Value) (r : R2D) : Prop where
  ex : ∃ rV, OpR X f rV ∧ Serves2 X.K r rV
variable {a b c : Expr} {ta tb tc : DE} {pos : Pos}
theorem pd_op {op : Operator} {r : R2D} (ho : OpD X (binaryOp op) r) (ha : PDE X a ta) (hb : PDE X b tb) : PDE X (.BinOp a op b pos) (dBin r ta tb) := by
  obtain ⟨rV, h1, h2⟩ := ho.ex
  exact pe_imp (pe_op h1 ha hb) (up_bin h2)
theorem pd_cmp {op : CmpOp} {r : R2D} (ho : OpD X (compareOp op) r) (ha : PDE X a ta) (hb : PDE X b tb) (hm : behindInMarks op b = false := by first | exact nomark _ | rfl) : PDE X (.Compare a [op] [b] pos) (dBin r ta tb) := by
  obtain ⟨rV, h1, h2⟩ := ho.ex
  exact pe_imp (pe_cmpR h1 ha hb hm) (up_bin h2)
/-- a reading of a truth value as a test -/
def dTest (t : DE) : DT := fun env M Q => t env M fun d M1 => match d with
  | .bl b => Q b M1
  | _ => False
theorem up_test {K : PySem.W.Frag} {t : DE} {tV : TE} (h : ∀ σ H Q, up K t σ H Q → tV σ H Q) : ∀ σ H Q, upT K (dTest t) σ H Q → tTest tV σ H Q := fun σ H Q ⟨R, F, env, M, Qd, a, e, h1, k⟩ => by
  refine h σ H _ ⟨R, F, env, M, _, a, e, h1, fun F' H' M' d v s a' r q => ?_⟩
  cases d with
  | bl b => exact ⟨b, r, k F' H' M' b s a' q⟩
  | _ => exact q.elim
theorem pdt_cmp {op : CmpOp} {r : R2D} (ho : OpD X (compareOp op) r) (ha : PDE X a ta) (hb : PDE X b tb) (hm : behindInMarks op b = false := by first | exact nomark _ | rfl) : PDT X (.Compare a [op] [b] pos) (dTest (dBin r ta tb)) := by
  obtain ⟨rV, h1, h2⟩ := ho.ex
  exact pt_imp (pt_cmpR h1 ha hb hm) (up_test (up_bin h2))
/-- one argument -/
def dUn (r : D → Mp → DK → Prop) (ta : DE) : DE := fun env M Q => ta env M fun x M1 => r x M1 Q
def rNegI : D → Mp → DK → Prop := fun d M Q => match d with
  | .int i => Q (.int (-i)) M
  | _ => False
theorem pd_neg (ha : PDE X a ta) : PDE X (.UnaryOp .USub a pos) (dUn rNegI ta) := by
  refine pe_imp (pe_un un_neg ha) fun σ H Q ⟨R, F, env, M, Qd, a, e, h, k⟩ => ⟨R, F, env, M, _, a, e, h, fun F1 H1 M1 d v s1 a1 r1 h1 => ?_⟩
  cases d with
  | int i => exact ⟨i, r1, k F1 H1 M1 (.int (-i)) _ s1 a1 rfl h1⟩
  | _ => exact h1.elim
def truD (M : Mp) : D → Option Bool
  | .non => some false
  | .bl b => some b
  | .int i => some (i != 0)
  | .str x => some ((x.length : Int) != 0)
  | .tup ds => some (!ds.isEmpty)
  | .lst ds => some (!ds.isEmpty)
  | .ref a => match M a with
    | some (.lst ds) => some (!ds.isEmpty)
    | some (.dct ks _) => some (!ks.isEmpty)
    | _ => none
  | _ => none
def dTru (ta : DE) : DT := fun env M Q => ta env M fun d M1 => match truD M1 d with
  | some b => Q b M1
  | none => False
theorem tru_ok {K : PySem.W.Frag} {R F : Hp} {M : Mp} {H : Hp} (a : At K R F M H) : ∀ {d : D} {v : V} {b : Bool}, Rep K F d v → truD M d = some b → TruV K v H b
  | .non, _, _, r, h => by cases r; cases h; rfl
  | .bl _, _, _, r, h => by cases r; cases h; rfl
  | .int _, _, _, r, h => by cases r; cases h; rfl
  | .str _, _, _, r, h => by obtain ⟨r, z⟩ := r; cases r; cases h; exact ⟨z.1, rfl⟩
  | .tup ds, _, _, ⟨p, xs, e, q, r⟩, h => by
    subst e; cases h; rw [r.isEmpty]; exact .inr (.inl ⟨xs, Same.seqT a.fz q, rfl⟩)
  | .lst ds, _, _, ⟨p, xs, e, q, r⟩, h => by
    subst e; cases h; rw [r.isEmpty]; exact .inl ⟨xs, SqL.of (a.fz _ _ q), rfl⟩
  | .ref p, _, _, r, h => by
    cases r
    simp only [truD] at h
    split at h
    · rename_i ds hm
      cases h
      obtain ⟨_, u, hu, xs, e, r⟩ := a.mu _ _ hm
      subst e
      rw [r.isEmpty]
      exact .inl ⟨xs, SqL.of hu, rfl⟩
    · rename_i ks ds hm
      cases h
      obtain ⟨_, u, hu, xs, e, l, r⟩ := a.mu _ _ hm
      subst e
      refine .inr (.inr ⟨_, hu, ?_⟩)
      rw [isEmpty_zip (by rw [l.1, r.length])]
    · cases h
  | .ty _, _, _, _, h => by cases h
  | .lsk _, _, _, _, h => by cases h
  | .dct _ _, _, _, _, h => by cases h
  | .obj _ _, _, _, _, h => by cases h
  | .dkd _ _ _, _, _, _, h => by cases h
  | .exc _ _ _ _, _, _, _, h => by cases h
  | .fn _ _ _, _, _, _, h => by cases h
theorem pdt (ha : PDE X a ta) (he : ∀ whole, isTrue a X.env whole = (do let v ← whole; standAt a.pos; holding [v] (truthy v)) := by intro _; rfl) : PDT X a (dTru ta) := by
  refine pt_imp (pt_truth ha he) fun σ H Q ⟨R, F, env, M, Qd, a, e, h, k⟩ => ⟨R, F, env, M, _, a, e, h, fun F1 H1 M1 d v s1 a1 r1 h1 => ?_⟩
  split at h1
  · rename_i b hb
    exact ⟨b, tru_ok a1 r1 hb, k F1 H1 M1 b s1 a1 h1⟩
  · exact h1.elim
abbrev PDW (X : Cx) (e : Expr) (t : DT) : Prop := PW X e (upT X.K t)
variable {tA tB : DT} {rest : List Expr}
def dAnd (t u : DT) : DT := fun env M Q => t env M fun c M1 => brn c (u env M1 Q) (Q false M1)
def dOr (t u : DT) : DT := fun env M Q => t env M fun c M1 => brn c (Q true M1) (u env M1 Q)
def dNot (t : DT) : DT := fun env M Q => t env M fun c M1 => Q (!c) M1
theorem pdw_and1 (ha : PDT X a tA) : PDW X (.BoolOp .And [a] pos) tA := pw_and1 ha
theorem pdw_or1 (ha : PDT X a tA) : PDW X (.BoolOp .Or [a] pos) tA := pw_or1 ha
theorem pdw_and (ha : PDT X a tA) (hb : PDW X (.BoolOp .And (b :: rest) pos) tB) : PDW X (.BoolOp .And (a :: b :: rest) pos) (dAnd tA tB) := by
  refine pw_imp (pw_and ha hb) fun σ H Q ⟨R, F, env, M, Qd, a, e, h, k⟩ => ⟨R, F, env, M, _, a, e, h, fun F1 H1 M1 b s1 a1 h1 => ?_⟩
  cases b with
  | true => rw [brn_t] at h1; rw [if_pos rfl]; exact ⟨R, F1, env, M1, Qd, a1, e.mono s1, h1, k.mono s1⟩
  | false => rw [brn_f] at h1; rw [if_neg Bool.false_ne_true]; exact k F1 H1 M1 _ s1 a1 h1
theorem pdw_or (ha : PDT X a tA) (hb : PDW X (.BoolOp .Or (b :: rest) pos) tB) : PDW X (.BoolOp .Or (a :: b :: rest) pos) (dOr tA tB) := by
  refine pw_imp (pw_or ha hb) fun σ H Q ⟨R, F, env, M, Qd, a, e, h, k⟩ => ⟨R, F, env, M, _, a, e, h, fun F1 H1 M1 b s1 a1 h1 => ?_⟩
  cases b with
  | true => rw [brn_t] at h1; rw [if_pos rfl]; exact k F1 H1 M1 _ s1 a1 h1
  | false => rw [brn_f] at h1; rw [if_neg Bool.false_ne_true]; exact ⟨R, F1, env, M1, Qd, a1, e.mono s1, h1, k.mono s1⟩
theorem pdt_not (ha : PDT X a tA) : PDT X (.UnaryOp .Not a pos) (dNot tA) := by
  refine pt_imp (pt_not ha) fun σ H Q ⟨R, F, env, M, Qd, a, e, h, k⟩ => ⟨R, F, env, M, _, a, e, h, fun F1 H1 M1 b s1 a1 h1 => k F1 H1 M1 _ s1 a1 h1⟩
/-- as values -/
def dAndV (ta tb : DE) : DE := fun env M Q => ta env M fun x M1 => match truD M1 x with
  | some c => brn c (tb env M1 Q) (Q x M1)
  | none => False
theorem pd_one {op} (h : PDE X a ta) : PDE X (.BoolOp op [a] pos) ta := pe_one h
theorem pd_and (ha : PDE X a ta) (hb : PDE X (.BoolOp .And (b :: rest) pos) tb) : PDE X (.BoolOp .And (a :: b :: rest) pos) (dAndV ta tb) := by
  refine pe_imp (pe_andT ha hb) fun σ H Q ⟨R, F, env, M, Qd, a, e, h, k⟩ => ⟨R, F, env, M, _, a, e, h, fun F1 H1 M1 d v s1 a1 r1 h1 => ?_⟩
  split at h1
  · rename_i c hc
    refine ⟨c, tru_ok a1 r1 hc, ?_⟩
    cases c with
    | true => rw [brn_t] at h1; rw [if_pos rfl]; exact ⟨R, F1, env, M1, Qd, a1, e.mono s1, h1, k.mono s1⟩
    | false => rw [brn_f] at h1; rw [if_neg Bool.false_ne_true]; exact k F1 H1 M1 _ _ s1 a1 r1 h1
  · exact h1.elim
def dIf (t : DT) (ta tb : DE) : DE := fun env M Q => t env M fun c M1 => brn c (ta env M1 Q) (tb env M1 Q)
theorem pd_if (hc : PDT X c tA) (ha : PDE X a ta) (hb : PDE X b tb) : PDE X (.IfExp c a b pos) (dIf tA ta tb) := by
  refine pe_imp (pe_ifExp hc ha hb) fun σ H Q ⟨R, F, env, M, Qd, a, e, h, k⟩ => ⟨R, F, env, M, _, a, e, h, fun F1 H1 M1 b s1 a1 h1 => ?_⟩
  cases b with
  | true => rw [brn_t] at h1; rw [if_pos rfl]; exact ⟨R, F1, env, M1, Qd, a1, e.mono s1, h1, k.mono s1⟩
  | false => rw [brn_f] at h1; rw [if_neg Bool.false_ne_true]; exact ⟨R, F1, env, M1, Qd, a1, e.mono s1, h1, k.mono s1⟩
def dNil : DA := fun _ M Q => Q [] M
def dCons (ta : DE) (tr : DA) : DA := fun env M Q => ta env M fun x M1 => tr env M1 fun xs M2 => Q (x :: xs) M2
theorem pda_nil : PDA X [] dNil := pa_imp pa_nil fun σ H Q ⟨R, F, env, M, Qd, a, e, h, k⟩ => k F H M [] [] (Same.refl F) a rfl rfl h
theorem pda_cons {es : List Expr} {t : DA} (ha : PDE X a ta) (hr : PDA X es t) (hs : starEach (a :: es) X.env = (false, eval a X.env) :: starEach es X.env := by rfl) : PDA X (a :: es) (dCons ta t) :=
  pa_imp (pa_cons ha hr hs) fun σ H Q ⟨R, F, env, M, Qd, a, e, h, k⟩ => ⟨R, F, env, M, _, a, e, h, fun F1 H1 M1 d v s1 a1 r1 h1 => ⟨R, F1, env, M1, _, a1, e.mono s1, h1, fun F2 H2 M2 ds vs s2 a2 r2 l2 h2 =>
    k F2 H2 M2 (d :: ds) (v :: vs) (s1.trans s2) a2 ⟨v, vs, rfl, r1.mono s2, r2⟩ (by simp [l2]) h2⟩⟩
variable {es : List Expr} {t : DA}
def dTup (t : DA) : DE := fun env M Q => t env M fun ds M1 => Q (.tup ds) M1
def dLst (t : DA) : DE := fun env M Q => t env M fun ds M1 => Q (.lst ds) M1
def dLstM (t : DA) : DE := fun env M Q => t env M fun ds M1 => ∀ p, M1 p = none → Q (.ref p) (mupd M1 p (.lst ds))
theorem tup_new {K : PySem.W.Frag} {R F : Hp} {M : Mp} {H : Hp} {ds : List D} {vs : List V} {Qd : DK} {Q : VK} {p : Addr} (a : At K R F M H) (r : Reps K F ds vs) (k : KD K R F Qd Q) (h : Qd (.tup ds) M) (hp : H p = none) : Q (.ref p) (upd H p (.tup vs)) := by
  obtain ⟨a1, s1⟩ := a.laid hp (.tup vs)
  exact k _ _ M (.tup ds) _ s1 a1 ⟨p, vs, rfl, SqT.of upd_same, r.mono s1⟩ h
theorem lst_new {K : PySem.W.Frag} {R F : Hp} {M : Mp} {H : Hp} {ds : List D} {vs : List V} {Qd : DK} {Q : VK} {p : Addr} (a : At K R F M H) (r : Reps K F ds vs) (k : KD K R F Qd Q) (h : Qd (.lst ds) M) (hp : H p = none) : Q (.ref p) (upd H p (.lst vs)) := by
  obtain ⟨a1, s1⟩ := a.laid hp (.lst vs)
  exact k _ _ M (.lst ds) _ s1 a1 ⟨p, vs, rfl, upd_same, r.mono s1⟩ h
theorem lst_born {K : PySem.W.Frag} {R F : Hp} {M : Mp} {H : Hp} {ds : List D} {vs : List V} {Qd : DK} {Q : VK} {p : Addr} (a : At K R F M H) (r : Reps K F ds vs) (k : KD K R F Qd Q) (h : ∀ p, M p = none → Qd (.ref p) (mupd M p (.lst ds))) (hp : H p = none) : Q (.ref p) (upd H p (.lst vs)) :=
  k F _ _ (.ref p) _ (Same.refl F) (a.born hp (o := .lst ds) ⟨vs, rfl, r⟩) rfl (h p (a.freeM hp))
theorem small1k {n : Nat} (h : n ≤ 1000) : n ≤ sizeLine := Nat.le_of_lt (small1000 h)
theorem pd_tup {k : Nat} (h : PDA X es t) (hz : es.length ≤ 1000 := by decide) : PDE X (.Tuple es k pos) (dTup t) :=
  pe_imp (pe_tup h) fun σ H Q ⟨R, F, env, M, Qd, a, e, h, k⟩ => ⟨R, F, env, M, _, a, e, h, fun F1 H1 M1 ds vs s1 a1 r1 l1 h1 => ⟨small1k (by rw [← r1.length, l1]; exact hz), fun p hp => tup_new a1 r1 (k.mono s1) h1 hp⟩⟩
theorem pd_lst (h : PDA X es t) (hz : es.length ≤ 1000 := by decide) : PDE X (.List es pos) (dLst t) :=
  pe_imp (pe_lst h) fun σ H Q ⟨R, F, env, M, Qd, a, e, h, k⟩ => ⟨R, F, env, M, _, a, e, h, fun F1 H1 M1 ds vs s1 a1 r1 l1 h1 => ⟨small1k (by rw [← r1.length, l1]; exact hz), fun p hp => lst_new a1 r1 (k.mono s1) h1 hp⟩⟩
theorem pd_lstM (h : PDA X es t) (hz : es.length ≤ 1000 := by decide) : PDE X (.List es pos) (dLstM t) :=
  pe_imp (pe_lst h) fun σ H Q ⟨R, F, env, M, Qd, a, e, h, k⟩ => ⟨R, F, env, M, _, a, e, h, fun F1 H1 M1 ds vs s1 a1 r1 l1 h1 => ⟨small1k (by rw [← r1.length, l1]; exact hz), fun p hp => lst_born a1 r1 (k.mono s1) h1 hp⟩⟩
end
end L3
set_option Elab.async false
set_option linter.all false
set_option maxRecDepth 100000
set_option maxHeartbeats 1000000
namespace L3
open PySem PySem.Spec PyProof.Rows L2
section
variable {X : Cx} {st : Stmt} {rest : List Stmt} {t u : DS} {e : Expr} {te : DE} {pos : Pos}
def dNext : DS := fun D env M => D.nx env M
def dSeq (t u : DS) : DS := fun D env M => t { D with nx := fun e m => u D e m } env M
theorem pdss_nil : PDSs X [] dNext := pss_imp pss_nil fun D σ H ⟨R, F, env, M, Dd, a, e, h, k⟩ => k.nx F H M env σ (Same.refl F) a e h
theorem pdss_cons (h1 : PDS X st t) (h2 : PDSs X rest u) : PDSs X (st :: rest) (dSeq t u) :=
  pss_imp (pss_cons h1 h2) fun D σ H ⟨R, F, env, M, Dd, a, e, h, k⟩ => ⟨R, F, env, M, _, a, e, h, ⟨fun F1 H1 M1 env1 σ1 s1 a1 e1 q1 => ⟨R, F1, env1, M1, Dd, a1, e1, q1, k.mono s1⟩, k.rt, k.bk, k.ct⟩⟩
theorem pdss_one (h1 : PDS X st t) : PDSs X [st] t := pss_one h1
def dDrop (te : DE) : DS := fun D env M => te env M fun _ M1 => D.nx env M1
theorem pds_expr (he : PDE X e te) (hs : swapsWith e none pos.line X.env = pure false := by rfl) : PDS X (.Expr e pos) (dDrop te) :=
  ps_imp (ps_expr he hs) fun D σ H ⟨R, F, env, M, Dd, a, e, h, k⟩ => ⟨R, F, env, M, _, a, e, h, fun F1 H1 M1 d v s1 a1 r1 q1 => k.nx F1 H1 M1 env σ s1 a1 (e.mono s1) q1⟩
def dRet (te : DE) : DS := fun D env M => te env M D.rt
theorem pds_ret (he : PDE X e te) : PDS X (.Return (some e) pos) (dRet te) :=
  ps_imp (ps_ret he) fun D σ H ⟨R, F, env, M, Dd, a, e, h, k⟩ => ⟨R, F, env, M, _, a, e, h, k.rt⟩
def dIfS (c : DT) (t u : DS) : DS := fun D env M => c env M fun b M1 => brn b (t D env M1) (u D env M1)
theorem pds_if {c : Expr} {a b : List Stmt} {tc : DT} (hc : PDT X c tc) (ha : PDSs X a t) (hb : PDSs X b u) : PDS X (.If c a b pos) (dIfS tc t u) :=
  ps_imp (ps_if hc ha hb) fun D σ H ⟨R, F, env, M, Dd, a, e, h, k⟩ => ⟨R, F, env, M, _, a, e, h, fun F1 H1 M1 b s1 a1 q1 => by
    cases b with
    | true => rw [brn_t] at q1; rw [if_pos rfl]; exact ⟨R, F1, env, M1, Dd, a1, e.mono s1, q1, k.mono s1⟩
    | false => rw [brn_f] at q1; rw [if_neg Bool.false_ne_true]; exact ⟨R, F1, env, M1, Dd, a1, e.mono s1, q1, k.mono s1⟩⟩
def dNever : DS := fun _ _ _ => False
theorem pds_never : PDS X st dNever := ps_imp ps_never fun D σ H ⟨R, F, env, M, Dd, a, e, h, k⟩ => h
inductive Tg where
  | name (i : Nat)
  | tup (ts : List Tg)
mutual
def Tg.bind : Tg → D → DEnv → (DEnv → Prop) → Prop
  | .name i, d, env, k => k (env.set i (some d))
  | .tup ts, d, env, k => match d with
    | .tup ds => Tg.binds ts ds env k
    | _ => False
def Tg.binds : List Tg → List D → DEnv → (DEnv → Prop) → Prop
  | [], [], env, k => k env
  | t :: ts, d :: ds, env, k => Tg.bind t d env fun env1 => Tg.binds ts ds env1 k
  | _, _, _, _ => False
end
mutual
def Tg.slots : Tg → List Nat
  | .name i => [i]
  | .tup ts => Tg.slotsL ts
def Tg.slotsL : List Tg → List Nat
  | [] => []
  | t :: ts => Tg.slots t ++ Tg.slotsL ts
end
mutual
def tgOf (K : PySem.W.Frag) : Tg → TG
  | .name i => gName i
  | .tup ts => gTup K ts.length (tgsOf K ts)
def tgsOf (K : PySem.W.Frag) : List Tg → TGs
  | [] => gNil
  | t :: ts => gCons (tgOf K t) (tgsOf K ts)
end
abbrev PDG (X : Cx) (tg : Expr) (t : Tg) : Prop := PG X tg (tgOf X.K t)
abbrev PDGs (X : Cx) (tgs : List Expr) (ts : List Tg) : Prop := PGs X tgs (tgsOf X.K ts)
theorem wipe_get (σ : L2.St) (j : Nat) : ∀ vs : List Nat, (wipe σ vs)[j]? = if j ∈ vs then (σ[j]?).map (fun _ => none) else σ[j]?
  | [] => by simp [wipe]
  | v :: vs => by
    show ((wipe σ vs).set v none)[j]? = _
    by_cases hv : v = j
    · subst hv
      rw [List.getElem?_set, if_pos rfl, if_pos List.mem_cons_self, wipe_length]
      by_cases hl : v < σ.length
      · rw [if_pos hl, List.getElem?_eq_getElem hl]; rfl
      · rw [if_neg hl, List.getElem?_eq_none (Nat.le_of_not_lt hl)]; rfl
    · rw [List.getElem?_set_ne hv, wipe_get σ j vs]
      by_cases hm : j ∈ vs
      · rw [if_pos hm, if_pos (List.mem_cons_of_mem _ hm)]
      · rw [if_neg hm, if_neg (by simp [hm, Ne.symm hv])]
theorem wipe_ext {σ σ' : L2.St} {vs : List Nat} (hl : σ.length = σ'.length) (h : ∀ j, j ∉ vs → σ[j]? = σ'[j]?) : wipe σ vs = wipe σ' vs := by
  apply List.ext_getElem?
  intro j
  rw [wipe_get, wipe_get]
  by_cases hm : j ∈ vs
  · rw [if_pos hm, if_pos hm]
    by_cases hj : j < σ.length
    · rw [List.getElem?_eq_getElem hj, List.getElem?_eq_getElem (hl ▸ hj)]; rfl
    · rw [List.getElem?_eq_none (Nat.le_of_not_lt hj), List.getElem?_eq_none (by omega)]
  · rw [if_neg hm, if_neg hm]; exact h j hm
theorem wipe_out {σ σ' : L2.St} {vs : List Nat} (h : wipe σ vs = wipe σ' vs) : σ.length = σ'.length ∧ ∀ j, j ∉ vs → σ[j]? = σ'[j]? := by
  refine ⟨by rw [← wipe_length σ vs, h, wipe_length], fun j hj => ?_⟩
  have := congrArg (fun l => l[j]?) h
  simp only [wipe_get, if_neg hj] at this
  exact this
theorem wipe_sub {σ σ' : L2.St} {vs ws : List Nat} (hs : ∀ v ∈ vs, v ∈ ws) (h : wipe σ vs = wipe σ' vs) : wipe σ ws = wipe σ' ws := by
  obtain ⟨hl, hg⟩ := wipe_out h
  exact wipe_ext hl fun j hj => hg j fun hm => hj (hs j hm)
theorem wipe_set (σ : L2.St) (i : Nat) (x : Option V) (vs : List Nat) (h : i ∈ vs) : wipe (σ.set i x) vs = wipe σ vs :=
  wipe_ext (by simp) fun j hj => List.getElem?_set_ne (fun e => hj (by rw [← e]; exact h))
theorem wipe_wipe (σ : L2.St) (vs : List Nat) : wipe (wipe σ vs) vs = wipe σ vs :=
  wipe_ext (wipe_length _ _) fun j hj => by rw [wipe_get, if_neg hj]
theorem Tg.binds_len : ∀ (ts : List Tg) (ds : List D) (env : DEnv) (k : DEnv → Prop), Tg.binds ts ds env k → ds.length = ts.length := by
  intro ts
  refine Tg.rec_1 (motive_1 := fun t => ∀ (d : D) (env : DEnv) (k : DEnv → Prop), t.bind d env k → ∃ env1, k env1) (motive_2 := fun ts => ∀ (ds : List D) (env : DEnv) (k : DEnv → Prop), Tg.binds ts ds env k → ds.length = ts.length ∧ ∃ env1, k env1) ?_ ?_ ?_ ?_ ts |> fun h ds env k q => (h ds env k q).1
  · intro i d env k h; exact ⟨_, h⟩
  · intro ts ih d env k h
    cases d with
    | tup ds => exact (ih ds env k h).2
    | _ => exact h.elim
  · intro ds env k h
    cases ds with
    | nil => exact ⟨rfl, _, h⟩
    | cons d ds => exact h.elim
  · intro t ts i1 i2 ds env k h
    cases ds with
    | nil => exact h.elim
    | cons d ds =>
      obtain ⟨env1, h1⟩ := i1 d env _ h
      obtain ⟨e, q⟩ := i2 ds env1 k h1
      exact ⟨by simp [e], q⟩
/-- the rule of a target serves its data -/
theorem tg_serves {K : PySem.W.Frag} {R F : Hp} {M : Mp} {H : Hp} (a : At K R F M H) : ∀ (t : Tg) (σ : L2.St) (env : DEnv) (d : D) (v : V) (Qd : DEnv → Prop) (Q : L2.St → Hp → Prop), EnvR K F σ env → Rep K F d v → t.bind d env Qd →
    (∀ σ' env', EnvR K F σ' env' → wipe σ' t.slots = wipe σ t.slots → Qd env' → Q σ' H) → tgOf K t v σ H Q := by
  intro t
  refine Tg.rec (motive_1 := fun t => ∀ (σ : L2.St) (env : DEnv) (d : D) (v : V) (Qd : DEnv → Prop) (Q : L2.St → Hp → Prop), EnvR K F σ env → Rep K F d v → t.bind d env Qd →
    (∀ σ' env', EnvR K F σ' env' → wipe σ' t.slots = wipe σ t.slots → Qd env' → Q σ' H) → tgOf K t v σ H Q)
    (motive_2 := fun ts => ∀ (σ : L2.St) (env : DEnv) (ds : List D) (vs : List V) (Qd : DEnv → Prop) (Q : L2.St → Hp → Prop), EnvR K F σ env → Reps K F ds vs → Tg.binds ts ds env Qd →
    (∀ σ' env', EnvR K F σ' env' → wipe σ' (Tg.slotsL ts) = wipe σ (Tg.slotsL ts) → Qd env' → Q σ' H) → tgsOf K ts vs σ H Q) ?_ ?_ ?_ ?_ t
  · intro i σ env d v Qd Q e r h k
    exact k _ _ (e.set i r) (wipe_set _ _ _ _ (by simp [Tg.slots])) h
  · intro ts ih σ env d v Qd Q e r h k
    cases d with
    | tup ds =>
      obtain ⟨p, xs, rfl, q, r⟩ := r
      have e1 := Tg.binds_len ts ds env Qd h
      have e2 := r.length
      exact ⟨p, xs, rfl, Same.seqT a.fz q, by omega, ih σ env ds xs Qd Q e r h k⟩
    | _ => exact h.elim
  · intro σ env ds vs Qd Q e r h k
    cases ds with
    | nil => exact ⟨r, k σ env e rfl h⟩
    | cons d ds => exact h.elim
  · intro tg tgs i1 i2 σ env ds vs Qd Q e r h k
    cases ds with
    | nil => exact h.elim
    | cons d ds =>
      obtain ⟨x, xr, rfl, r1, r2⟩ := r
      refine ⟨x, xr, rfl, i1 σ env d x _ _ e r1 h fun σ1 env1 e1 w1 q1 => ?_⟩
      refine i2 σ1 env1 ds xr Qd Q e1 r2 q1 fun σ2 env2 e2 w2 q2 => k σ2 env2 e2 ?_ q2
      have z1 : ∀ v ∈ tg.slots, v ∈ Tg.slotsL (tg :: tgs) := fun v hv => List.mem_append_left _ hv
      have z2 : ∀ v ∈ Tg.slotsL tgs, v ∈ Tg.slotsL (tg :: tgs) := fun v hv => List.mem_append_right _ hv
      exact (wipe_sub z2 w2).trans (wipe_sub z1 w1)
theorem pdg_name {i : Nat} {x : Str} (hN : X.N.Nodup) (hi : X.N[i]? = some x := by rfl) (hx : Loc X.env.scope x := by first | exact Or.inl rfl | exact Or.inr rfl) (hf : X.fn x = true ∨ X.env.scope.names.lookup x = some .local := by first | exact .inl rfl | exact .inr rfl | assumption) : PDG X (.Name x pos) (.name i) :=
  pg_name hN hi hx hf
theorem pdgs_nil : PDGs X [] [] := pgs_nil
theorem pdgs_cons {g : Expr} {gs : List Expr} {tg : Tg} {tgs : List Tg} (h1 : PDG X g tg) (h2 : PDGs X gs tgs)
    (hs : (assignEach (g :: gs) X.env).map (·.2) = assign g X.env :: (assignEach gs X.env).map (·.2) := by rfl) : PDGs X (g :: gs) (tg :: tgs) := pgs_cons h1 h2 hs
theorem pdg_tup {es : List Expr} {k : Nat} {ts : List Tg} (h : PDGs X es ts) (hc : X.calm = true := by rfl)
    (hn : (assignEach es X.env).length = ts.length := by rfl) (hst : (assignEach es X.env).findIdx? (·.1) = none := by rfl) : PDG X (.Tuple es k pos) (.tup ts) := pg_tup hc h hn hst
def dAsg (te : DE) (t : Tg) : DS := fun D env M => te env M fun d M1 => t.bind d env fun env1 => D.nx env1 M1
theorem pds_asg {tg : Expr} {t : Tg} (he : PDE X e te) (hg : PDG X tg t) (hs : swapsWithSole [tg] e pos.line X.env = pure false := by rfl) (hw : swappedStores [tg] e X.env = pure none := by rfl)
    (h1 : (assignEach [tg] X.env).map (·.2) = [assign tg X.env] := by rfl) : PDS X (.Assign [tg] e pos) (dAsg te t) := by
  exact ps_imp (ps_asg he hg hs hw h1) fun D σ H ⟨R, F, env, M, Dd, a, e, h, k⟩ => ⟨R, F, env, M, _, a, e, h, fun F1 H1 M1 d v s1 a1 r1 q1 =>
    tg_serves a1 t σ env d v _ _ (e.mono s1) r1 q1 fun σ' env' e' _ q' => k.nx F1 H1 M1 env' σ' s1 a1 e' q'⟩
def dSet (i : Nat) (te : DE) : DS := fun D env M => te env M fun d M1 => D.nx (env.set i (some d)) M1
theorem pds_set {i : Nat} {x : Str} {pos' : Pos} (hN : X.N.Nodup) (he : PDE X e te) (hi : X.N[i]? = some x := by rfl) (hx : Loc X.env.scope x := by first | exact Or.inl rfl | exact Or.inr rfl) (hs : swapsWith e (some (.Name x pos')) pos.line X.env = pure false := by rfl) (hf : X.fn x = true ∨ X.env.scope.names.lookup x = some .local := by first | exact .inl rfl | exact .inr rfl | assumption) :
    PDS X (.Assign [.Name x pos'] e pos) (dSet i te) :=
  ps_imp (ps_set hN hi hx he hs hf) fun D σ H ⟨R, F, env, M, Dd, a, e, h, k⟩ => ⟨R, F, env, M, _, a, e, h, fun F1 H1 M1 d v s1 a1 r1 q1 => k.nx F1 H1 M1 _ _ s1 a1 ((e.mono s1).set i r1) q1⟩
/-- a, b = x, y with plain local names -/
def dPar (i j : Nat) (ta : DA) : DS := fun D env M => ta env M fun ds M1 => match ds with
  | [d, g] => D.nx ((env.set i (some d)).set j (some g)) M1
  | _ => False
theorem pds_par {i j : Nat} {x y : Str} {a b : Expr} {ta : DA} {px py pt : Pos} {kt k2 pt2} (hN : X.N.Nodup) (ha : PDA X [a, b] ta) (hc : X.calm = true := by rfl) (hi : X.N[i]? = some x := by rfl) (hj : X.N[j]? = some y := by rfl) (hij : i ≠ j := by decide)
    (hx : X.env.scope.names.lookup x = some .local := by rfl) (hy : X.env.scope.names.lookup y = some .local := by rfl)
    (hw : swappedStores [.Tuple [.Name x px, .Name y py] kt pt] (.Tuple [a, b] k2 pt2) X.env = pure (some [x, y]) := by rfl)
    (hs : swapsWithSole [.Tuple [.Name x px, .Name y py] kt pt] (.Tuple [a, b] k2 pt2) pos.line X.env = pure false := by rfl) :
    PDS X (.Assign [.Tuple [.Name x px, .Name y py] kt pt] (.Tuple [a, b] k2 pt2) pos) (dPar i j ta) :=
  ps_imp (ps_par hc hN hi hj hij hx hy ha hw hs) fun D σ H ⟨R, F, env, M, Dd, a, e, h, k⟩ => ⟨R, F, env, M, _, a, e, h, fun F1 H1 M1 ds vs s1 a1 r1 l1 q1 => by
    obtain ⟨d, g, rfl⟩ : ∃ d g, ds = [d, g] := by
      cases ds with
      | nil => exact q1.elim
      | cons d ds => cases ds with
        | nil => exact q1.elim
        | cons g ds => cases ds with
          | nil => exact ⟨d, g, rfl⟩
          | cons _ _ => exact q1.elim
    obtain ⟨x, r, e1, h1, r2⟩ := r1
    obtain ⟨y, r', e2, h2, e3⟩ := r2
    cases (show r' = [] from e3)
    subst e1 e2
    exact ⟨x, y, rfl, k.nx F1 H1 M1 _ _ s1 a1 (((e.mono s1).set i h1).set j h2) q1⟩⟩
/-- an own list or dict held by a name is frozen: a step of ours, not of the program -/
def dFrz (te : DE) : DE := fun env M Q => te env M fun d M1 => match d with
  | .ref q => match M1 q with
    | some (.lst ds) => Q (.lst ds) (mdel M1 q)
    | some (.dct ks ds) => Q (.dct ks ds) (mdel M1 q)
    | some (.ins c ds) => Q (.obj c ds) (mdel M1 q)
    | some (.dkd w ks ds) => Q (.dkd w ks ds) (mdel M1 q)
    | _ => False
  | _ => False
theorem pe_lock {X : Cx} {e : Expr} {t : TE} (h : PE X e t) : PE X e (fun σ H Q => t σ H fun v H1 => Q v H1 ∨ ∃ d u, v = .ref d ∧ H1 d = some u ∧ Mut (some u) ∧ ∀ o, Q v (upd H1 d (.frz o u))) := ⟨fun pins s σ H Q I q =>
  thn (h.run pins s σ H _ I q) fun u s1 ⟨v, H1, I1, r, q1⟩ => by
    rcases q1 with q1 | ⟨d, kvs, e, hd, mu, q1⟩
    · exact ⟨v, H1, I1, r, q1⟩
    · obtain ⟨od, I2⟩ := I1.lock hd mu
      exact ⟨v, _, I2, r, q1 od⟩⟩
theorem pd_frz (he : PDE X e te) : PDE X e (dFrz te) := pe_imp (pe_lock he) fun σ H Q ⟨R, F, env, M, Qd, a, e, h, k⟩ => ⟨R, F, env, M, _, a, e, h, fun F1 H1 M1 d v s1 a1 r1 q1 => by
  split at q1
  · rename_i q
    split at q1
    · rename_i ds hm
      obtain ⟨u, ru, a2, s2⟩ := a1.freeze hm
      obtain ⟨xs, rfl, rx⟩ := ru
      exact .inl (k _ H1 _ (.lst ds) v (s1.trans s2) a2 ⟨q, xs, r1, upd_same, rx.mono s2⟩ q1)
    · rename_i ks ds hm
      obtain ⟨_, u, hu, xs, rfl, l, rx⟩ := a1.mu _ _ hm
      refine .inr ⟨q, _, r1, hu, trivial, fun o => ?_⟩
      obtain ⟨a2, s2⟩ := a1.freezeAs hm (.frz o (.dK (ks.zip xs)))
      exact k _ _ _ (.dct ks ds) v (s1.trans s2) a2 ⟨q, o, xs, r1, upd_same, l, rx.mono s2⟩ q1
    · rename_i c ds hm
      obtain ⟨u, ru, a2, s2⟩ := a1.freeze hm
      obtain ⟨dx, xs, rfl, l, rx⟩ := ru
      exact .inl (k _ H1 _ (.obj c ds) v (s1.trans s2) a2 ⟨q, dx, xs, r1, upd_same, l, rx.mono s2⟩ q1)
    · rename_i w ks ds hm
      obtain ⟨_, u, hu, Ls, rfl, l, rk, rx⟩ := a1.mu _ _ hm
      refine .inr ⟨q, _, r1, hu, trivial, fun o => ?_⟩
      obtain ⟨a2, s2⟩ := a1.freezeAs hm (.frz o (DkO w q Ls))
      exact k _ _ _ (.dkd w ks ds) v (s1.trans s2) a2 ⟨q, o, Ls, r1, upd_same, l, rk.mono s2, rx.mono s2⟩ q1
    · exact q1.elim
  · exact q1.elim⟩
/-- the walk J gives the items one by one -/
structure Gives (K : PySem.W.Frag) (J : It) (F : Hp) (items : List D) : Prop where
  small : items.length ≤ sizeLine
  stop : ∀ R F' M H, Same F F' → At K R F' M H → J.stop items.length H
  go : ∀ i d R F' M H, Same F F' → At K R F' M H → items[i]? = some d → J.go i H ∧ ∀ x H', J.yld i H x H' → ∃ F2, Same F' F2 ∧ At K R F2 M H' ∧ Rep K F2 d x
abbrev DI := DEnv → Mp → (List D → Mp → Prop) → Prop
def upI (K : PySem.W.Frag) (w : DI) : TI := fun σ H Z => ∃ R F env M Qd, At K R F M H ∧ EnvR K F σ env ∧ w env M Qd ∧ ∀ F' H' M' items J, Same F F' → At K R F' M' H' → Gives K J F' items → Qd items M' → Z J H'
abbrev PDI (X : Cx) (tg iter : Expr) (w : DI) : Prop := PI X tg iter (upI X.K w)
theorem pi_imp {tg iter : Expr} {w w' : TI} (h : PI X tg iter w) (i : ∀ σ H R, w' σ H R → w σ H R) : PI X tg iter w' := ⟨fun pins s σ H R I q => h.run pins s σ H R I (i _ _ _ q)⟩
/-- for, turn by turn -/
def dForL0 (t : Tg) (tb : DS) : List D → DS
  | [] => fun D env M => D.nx env M
  | x :: r => fun D env M => t.bind x env fun env1 => tb { D with nx := fun e m => dForL0 t tb r D e m, ct := fun e m => dForL0 t tb r D e m, bk := D.nx } env1 M
/-- .. not unfolded by itself -/
@[irreducible] def dForL (t : Tg) (tb : DS) (xs : List D) : DS := dForL0 t tb xs
theorem dForL_eq {t : Tg} {tb : DS} {xs : List D} : dForL t tb xs = dForL0 t tb xs := by unfold dForL; rfl
def dFor (w : DI) (t : Tg) (tb : DS) : DS := fun D env M => w env M fun items M1 => dForL t tb items D env M1
theorem pds_for {tg iter : Expr} {body : List Stmt} {w : DI} {t : Tg} {tb : DS} (hp : PassesOwn (model X.prog X.w) X.A X.env X.xe) (hi : PDI X tg iter w) (hg : PDG X tg t) (hb : PDSs X body tb) (hc : X.calm = true := by rfl)
    (hs : ∀ x, foldedSetIterable iter X.env x = pure x := by intro _; rfl) : PDS X (.For tg iter body [] pos) (dFor w t tb) := by
  refine ps_imp (ps_for hp hc hi hg hb hs) fun D σ H ⟨R, F, env, M, Dd, a, e, h, k⟩ => ⟨R, F, env, M, _, a, e, h, fun F1 H1 M1 items J s1 a1 gv q1 => ?_⟩
  rw [dForL_eq] at q1
  refine ⟨fun i m σ H => ∃ F2 env2 M2, Same F1 F2 ∧ At X.K R F2 M2 H ∧ EnvR X.K F2 σ env2 ∧ dForL0 t tb (items.drop i) Dd env2 M2 ∧ m = items.length - i ∧ i ≤ items.length, ⟨items.length, F1, env, M1, Same.refl _, a1, e.mono s1, q1, by simp, Nat.zero_le _⟩, ?_⟩
  rintro i m σ2 H2 ⟨F2, env2, M2, s2, a2, e2, q2, rfl, hi⟩
  by_cases hlt : i < items.length
  · rw [List.drop_eq_getElem_cons hlt] at q2
    obtain ⟨hgo, hy⟩ := gv.go i items[i] R F2 M2 H2 s2 a2 (List.getElem?_eq_getElem hlt)
    refine .inr ⟨hgo, fun σ' H' => ∃ F3 env3 M3, Same F1 F3 ∧ At X.K R F3 M3 H' ∧ EnvR X.K F3 σ' env3 ∧ dForL0 t tb (items.drop (i + 1)) Dd env3 M3, fun σ' H' ⟨F3, env3, M3, s3, a3, e3, q3⟩ => ⟨items.length - (i + 1), by omega, F3, env3, M3, s3, a3, e3, q3, rfl, hlt⟩, fun x H' y => ?_⟩
    obtain ⟨F3, s3, a3, r3⟩ := hy x H' y
    refine tg_serves a3 t σ2 env2 items[i] x _ _ (e2.mono s3) r3 q2 fun σ' env' e' _ q' => ?_
    have k3 := k.mono (s1.trans (s2.trans s3))
    exact ⟨R, F3, env', M2, _, a3, e', q', ⟨fun F4 H4 M4 env4 σ4 s4 a4 e4 q4 => ⟨F4, env4, M4, s2.trans (s3.trans s4), a4, e4, q4⟩, k3.rt, k3.nx, fun F4 H4 M4 env4 σ4 s4 a4 e4 q4 => ⟨F4, env4, M4, s2.trans (s3.trans s4), a4, e4, q4⟩⟩⟩
  · have e : i = items.length := by omega
    subst e
    rw [List.drop_length] at q2
    exact .inl ⟨gv.stop R F2 M2 H2 s2 a2, k.nx F2 H2 M2 env2 σ2 (s1.trans s2) a2 e2 q2⟩
abbrev PDTs (X : Cx) (ifs : List Expr) (t : DT) : Prop := PTs X ifs (upT X.K t)
def dYes : DT := fun _ M Q => Q true M
theorem pts_imp {ifs : List Expr} {t t' : TT} (h : PTs X ifs t) (i : ∀ σ H Q, t' σ H Q → t σ H Q) : PTs X ifs t' := ⟨fun pins s σ H Q I q => h.run pins s σ H Q I (i _ _ _ q)⟩
theorem pdts_nil : PDTs X [] dYes := pts_imp pts_nil fun σ H Q ⟨R, F, env, M, Qd, a, e, h, k⟩ => k F H M true (Same.refl F) a h
theorem pdts_one {c : Expr} {t : DT} (h : PDT X c t) : PDTs X [c] t := pts_one h
def dLcL0 (t : Tg) (tt : DT) (te : DE) (env : DEnv) : List D → List D → Mp → (List D → Mp → Prop) → Prop
  | [], acc, M, Q => Q acc M
  | x :: r, acc, M, Q => t.bind x env fun env1 => tt env1 M fun b M1 => brn b (te env1 M1 fun y M2 => dLcL0 t tt te env r (acc ++ [y]) M2 Q) (dLcL0 t tt te env r acc M1 Q)
@[irreducible] def dLcL (t : Tg) (tt : DT) (te : DE) (env : DEnv) (xs acc : List D) (M : Mp) (Q : List D → Mp → Prop) : Prop := dLcL0 t tt te env xs acc M Q
theorem dLcL_eq {t : Tg} {tt : DT} {te : DE} {env : DEnv} {xs acc : List D} {M : Mp} {Q : List D → Mp → Prop} : dLcL t tt te env xs acc M Q = dLcL0 t tt te env xs acc M Q := by unfold dLcL; rfl
def dLc (w : DI) (t : Tg) (tt : DT) (te : DE) (vs : List Nat) : DE := fun env M Q => w env M fun items M1 => dLcL t tt te (wipeD env vs) items [] M1 fun ds M2 => Q (.lst ds) M2
theorem lc_served {K : PySem.W.Frag} {w : DI} {t : Tg} {tt : DT} {te : DE} {vs : List Nat} (hv : ∀ v ∈ t.slots, v ∈ vs) {σ : L2.St} {H : Hp} {Q : VK} {R F : Hp} {env : DEnv} {M : Mp} {Qd : List D → Mp → Prop}
    (a : At K R F M H) (e : EnvR K F σ env) (h : w env M fun items M1 => dLcL t tt te (wipeD env vs) items [] M1 Qd)
    (k : ∀ F' H' M' ds D xs, Same F F' → At K (upd R D (.lst xs)) F' M' H' → R D = none → Reps K F' ds xs → Qd ds M' → Q (.ref D) H') :
    tLc (upI K w) (tgOf K t) (upT K tt) (up K te) vs σ H Q := by
  refine ⟨R, F, env, M, _, a, e, h, fun F1 H1 M1 items J s1 a1 gv q1 => ?_⟩
  rw [dLcL_eq] at q1
  intro D hD
  have hRD := a1.freeR hD
  refine ⟨fun i m H => ∃ F2 M2 ds xs, Same F1 F2 ∧ At K (upd R D (.lst xs)) F2 M2 H ∧ Reps K F2 ds xs ∧ dLcL0 t tt te (wipeD env vs) (items.drop i) ds M2 Qd ∧ m = items.length - i ∧ i ≤ items.length ∧ ds.length ≤ i,
    ⟨items.length, F1, M1, [], [], Same.refl _, a1.lend hD _, rfl, q1, by simp, Nat.zero_le _, Nat.le_refl _⟩, ?_⟩
  rintro i m H2 ⟨F2, M2, ds, xs, s2, a2, rx, q2, rfl, hi, hl⟩
  by_cases hlt : i < items.length
  · rw [List.drop_eq_getElem_cons hlt] at q2
    obtain ⟨hgo, hy⟩ := gv.go i items[i] _ F2 _ _ s2 a2 (List.getElem?_eq_getElem hlt)
    refine .inr ⟨hgo, fun H' => ∃ F3 M3 ds3 xs3, Same F1 F3 ∧ At K (upd R D (.lst xs3)) F3 M3 H' ∧ Reps K F3 ds3 xs3 ∧ dLcL0 t tt te (wipeD env vs) (items.drop (i + 1)) ds3 M3 Qd ∧ ds3.length ≤ i + 1,
      fun H' ⟨F3, M3, ds3, xs3, s3, a3, r3, q3, l3⟩ => ⟨items.length - (i + 1), by omega, F3, M3, ds3, xs3, s3, a3, r3, q3, rfl, hlt, l3⟩, fun x H' y => ?_⟩
    obtain ⟨F3, s3, a3, r3⟩ := hy x H' y
    refine tg_serves a3 t (wipe σ vs) (wipeD env vs) items[i] x _ _ ((e.wipe vs).mono ((s1.trans s2).trans s3)) r3 q2 fun σ' env' e' w' q' => ?_
    refine ⟨(wipe_sub hv w').trans (wipe_wipe σ vs), _, F3, env', M2, _, a3, e', q', fun F4 H4 M4 b s4 a4 q4 => ?_⟩
    show if b = true then _ else _
    cases b with
    | true =>
      rw [brn_t] at q4; rw [if_pos rfl]
      refine ⟨_, F4, env', M4, _, a4, e'.mono s4, q4, fun F5 H5 M5 d v s5 a5 r5 q5 => ?_⟩
      have z := a5.fr D _ upd_same
      refine ⟨xs, z.2.2, ?_, F5, M5, ds ++ [d], xs ++ [v], ((s2.trans s3).trans s4).trans s5, by have := a5.relend (u' := .lst (xs ++ [v])); exact this, ((rx.mono s3).mono s4 |>.mono s5).append (Reps.one r5), q5, by simp; omega⟩
      have := rx.length
      have := gv.small
      omega
    | false =>
      rw [brn_f] at q4; rw [if_neg Bool.false_ne_true]
      exact ⟨F4, M4, ds, xs, (s2.trans s3).trans s4, a4, (rx.mono s3).mono s4, q4, by omega⟩
  · have e : i = items.length := by omega
    subst e
    rw [List.drop_length] at q2
    exact .inl ⟨gv.stop _ F2 M2 _ s2 a2, k F2 _ M2 ds D xs (s1.trans s2) a2 hRD rx q2⟩
section
variable {X : Cx} {pos : Pos} {elt tg iter : Expr} {ifs : List Expr} {scope : Scope} {own : List (Str × Nat)} {w : DI} {t : Tg} {tt : DT} {te : DE}
theorem lc_lst {K : PySem.W.Frag} {w : DI} {t : Tg} {tt : DT} {te : DE} {vs : List Nat} (hv : ∀ v ∈ t.slots, v ∈ vs) : ∀ σ H Q, up K (dLc w t tt te vs) σ H Q → tLc (upI K w) (tgOf K t) (upT K tt) (up K te) vs σ H Q :=
  fun σ H Q ⟨R, F, env, M, Qd, a, e, h, k⟩ => lc_served hv a e h fun F' H' M' ds D xs s a' hR r q => by
    obtain ⟨a2, s2⟩ := a'.takeF hR
    exact k _ H' M' (.lst ds) _ (s.trans s2) a2 ⟨D, xs, rfl, upd_same, r.mono s2⟩ q
/-- the context of a comprehension's block -/
abbrev BlkAll (X : Cx) (scope : Scope) (φ : Cx → Prop) : Prop := ∀ (s : Shared) (H : Hp) (C : Addr) (cl : List (Str × Addr)) (fp : List Addr), φ (X.blk s H scope (compEnvC scope cl C X.env) fp)
theorem pd_lc (hN : X.N.Nodup) (hi : PDI X tg iter w) (ok : BlkOk X.N X.env.scope scope own)
    (hg : BlkAll X scope fun Y => PDG Y tg t) (ht : BlkAll X scope fun Y => PDTs Y ifs tt) (he : BlkAll X scope fun Y => PDE Y elt te) (hv : ∀ v ∈ t.slots, v ∈ own.map (·.2) := by decide)
    (hc : X.calm = true := by rfl) (hs : ∀ x, foldedSetIterable iter X.env x = pure x := by intro _; rfl) :
    PDE X (.ListComp elt [⟨tg, iter, ifs, 0⟩] scope pos) (dLc w t tt te (own.map (·.2))) :=
  pe_imp (pe_lc hc hN hi ok hg ht he hs) (lc_lst hv)
/-- name = [..] on one line, the name a local -/
theorem pds_setLc {i : Nat} {y : Str} {py spos : Pos} (hN : X.N.Nodup) (hsw : swapsWith (.ListComp elt [⟨tg, iter, ifs, 0⟩] scope pos) (some (.Name y py)) spos.line X.env = pure true) (hi : PDI X tg iter w) (ok : BlkOk X.N X.env.scope scope own)
    (hg : BlkAll X scope fun Y => PDG Y tg t) (ht : BlkAll X scope fun Y => PDTs Y ifs tt) (he : BlkAll X scope fun Y => PDE Y elt te) (hv : ∀ v ∈ t.slots, v ∈ own.map (·.2) := by decide)
    (hy : X.N[i]? = some y := by rfl) (hyl : X.env.scope.names.lookup y = some .local := by rfl)
    (hc : X.calm = true := by rfl) (hs : ∀ x, foldedSetIterable iter X.env x = pure x := by intro _; rfl) :
    PDS X (.Assign [.Name y py] (.ListComp elt [⟨tg, iter, ifs, 0⟩] scope pos) spos) (dSet i (dLc w t tt te (own.map (·.2)))) :=
  ps_imp (ps_setLc hc hN hy hyl hsw hi ok hg ht he hs) fun D σ H ⟨R, F, env, M, Dd, a, e, h, k⟩ => lc_lst hv _ _ _ ⟨R, F, env, M, _, a, e, h, fun F1 H1 M1 d v s1 a1 r1 q1 => k.nx F1 H1 M1 _ _ s1 a1 ((e.mono s1).set i r1) q1⟩
end
end
end L3
set_option Elab.async false
set_option linter.all false
set_option maxRecDepth 100000
set_option maxHeartbeats 1000000
namespace L3
open PySem PySem.Spec PyProof.Rows L2
/-- what is wanted of an exception: its class, the fields of its own dict, the store -/
abbrev DX := Str → List Str → List D → Mp → Prop
abbrev SpD := List D → Mp → DK → DX → Prop
def KX (K : PySem.W.Frag) (R F : Hp) (Ed : DX) (E : XK) : Prop := ∀ F' H' M' nm dd ns ds xs, Same F F' → At K R F' M' H' → F' dd = some (.xd (ns.zip xs)) → ns.length = ds.length → Reps K F' ds xs → Ed nm ns ds M' → E (.ref (He.ga K nm)) (some dd) H'
theorem KX.mono {K : PySem.W.Frag} {R F F1 : Hp} {Ed : DX} {E : XK} (k : KX K R F Ed E) (s : Same F F1) : KX K R F1 Ed E := fun F' H' M' nm dd ns ds xs s' => k F' H' M' nm dd ns ds xs (s.trans s')
def upSp (K : PySem.W.Frag) (n : Nat) (sp : SpD) : Sp := fun vs H Q E => ∃ R F M ds Qd Ed, At K R F M H ∧ Reps K F ds vs ∧ ds.length = n ∧ sp ds M Qd Ed ∧ KD K R F Qd Q ∧ KX K R F Ed E
abbrev X0 : DX := fun _ _ _ _ => False
theorem kx0 {K : PySem.W.Frag} {R F : Hp} {E : XK} : KX K R F X0 E := fun _ _ _ _ _ _ _ _ _ _ _ _ _ h => h.elim
/-- what raises nothing is passed on -/
theorem passE0 {X : Cx} : Passes (L2N.CX X.prog X.w) X E0 := fun _ _ _ _ _ _ _ ⟨_, _, _, _, _, _, _, _, _, _, _, _, h⟩ => h.elim
def startD (N : List Str) (ds : List D) : DEnv := ds.map some ++ List.replicate (N.length - ds.length) none
theorem start_env {K : PySem.W.Frag} {F : Hp} {N : List Str} {ds : List D} {vs : List V} (r : Reps K F ds vs) : EnvR K F (L2.start N vs) (startD N ds) := by
  have hl := r.length
  refine ⟨by unfold L2.start startD; simp [hl], fun i d h => ?_⟩
  unfold startD at h
  by_cases hi : i < ds.length
  · rw [List.getElem?_append_left (by simpa using hi), List.getElem?_map] at h
    cases e : ds[i]? with
    | none => rw [e] at h; cases h
    | some g =>
      rw [e] at h; cases h
      obtain ⟨v, h1, h2⟩ := r.get e
      refine ⟨v, ?_, h2⟩
      unfold L2.start
      rw [List.getElem?_append_left (by simpa [← hl] using hi), List.getElem?_map, h1]; rfl
  · rw [List.getElem?_append_right (by simpa using hi), List.getElem?_replicate] at h
    split at h <;> cases h
/-- a def as it stands behind the top -/
structure DefAt (K : PySem.W.Frag) (mg : Str → Option Value) (x : Str) (st : Stmt) : Prop where
  ex : ∃ f fd, FunD K x x (defArgs st) (defBody st) (defScope st) [] [] f fd ∧ mg x = some (.ref f)
/-- .. and keeps a promise -/
structure DefOk (P : Program) (w : World) (K : PySem.W.Frag) (mg : Str → Option Value) (base : Heap) (k : Nat) (x : Str) (n : Nat) (sp : SpD) : Prop where
  ex : ∃ f fd ps, FnOk P w K mg base (L2N.CX P w) k f fd ps (upSp K n sp) ∧ ps.length = n ∧ mg x = some (.ref f) ∧ PySem.W.keepIn K (.ref f) = true ∧ Binds K fd ps []
theorem DefOk.mono {P : Program} {w : World} {K : PySem.W.Frag} {mg : Str → Option Value} {base : Heap} {j k : Nat} {x : Str} {n : Nat} {sp : SpD} (d : DefOk P w K mg base j x n sp) (h : j ≤ k) : DefOk P w K mg base k x n sp := by
  obtain ⟨f, fd, ps, a, b⟩ := d.ex
  exact ⟨f, fd, ps, a.mono h, b⟩
theorem DefOk.imp {P : Program} {w : World} {K : PySem.W.Frag} {mg : Str → Option Value} {base : Heap} {k : Nat} {x : Str} {n : Nat} {sp sp' : SpD} (d : DefOk P w K mg base k x n sp) (h : ∀ ds M Q E, sp' ds M Q E → sp ds M Q E) : DefOk P w K mg base k x n sp' := by
  obtain ⟨f, fd, ps, a, b⟩ := d.ex
  exact ⟨f, fd, ps, a.imp fun vs H Q E ⟨R, F, M, ds, Qd, Ed, h1, h2, h3, h4, h5⟩ => ⟨R, F, M, ds, Qd, Ed, h1, h2, h3, h _ _ _ _ h4, h5⟩, b⟩
/-- the context of a def's body that lets nothing out -/
abbrev bodyCx (P : Program) (w : World) (K : PySem.W.Frag) (mg : Str → Option Value) (base : Heap) (N : List Str) (x : Str) (st : Stmt) (f : Addr) (cdv : Value) (A : Around) (outer : List PySem.Env) (s : Shared) (H : Hp) (E : XK) : Cx :=
  (cxOf (L2N.CX P w) P w K mg base N x (defScope st) f cdv A outer s H E).nox
theorem def_fn {P : Program} {w : World} {K : PySem.W.Frag} {mg : Str → Option Value} {base : Heap} {k : Nat} {x : Str} {st : Stmt} {f : Addr} {fd : FuncData} {N ps : List Str} {sp : SpD} {t : DS} (F : FunD K x x (defArgs st) (defBody st) (defScope st) [] [] f fd) (S : FnScope N ps (defScope st))
    (hb : ∀ f cdv A outer s H E, Room k (A.deeper (envOfC x (defScope st) s.heap.objs.size f cdv)) → PDSs (bodyCx P w K mg base N x st f cdv A outer s H E) (defBody st) t)
    (hr : ∀ ds M Q E, ds.length = ps.length → sp ds M Q E → t { nx := fun _ M' => Q .non M', rt := Q } (startD N ds) M) : FnOk P w K mg base (L2N.CX P w) (k + 1) f fd ps (upSp K ps.length sp) := by
  refine F.ok S (fun vs H Q E ⟨R, F, M, ds, Qd, Ed, _, r, hl, _⟩ => by rw [← r.length, hl]) (fun cdv A outer s H vs Q E hroom h => ?_)
  obtain ⟨R, F', M, ds, Qd, Ed, a, r, hl, hsp, kd, kx⟩ := h
  refine ⟨_, (hb f cdv A outer s H E hroom).nox, R, F', startD N ds, M, { nx := fun _ M' => Qd .non M', rt := Qd }, a, start_env r, hr ds M Qd Ed hl hsp, ⟨fun F1 H1 M1 env1 σ1 s1 a1 e1 q => kd F1 H1 M1 .non .non s1 a1 rfl q, kd, fun _ _ _ _ _ _ _ _ q => q.elim, fun _ _ _ _ _ _ _ _ q => q.elim⟩⟩
theorem def_ok {P : Program} {w : World} {K : PySem.W.Frag} {mg : Str → Option Value} {base : Heap} {k : Nat} {x : Str} {st : Stmt} {N ps : List Str} {sp : SpD} {t : DS} (d : DefAt K mg x st) (S : FnScope N ps (defScope st))
    (bind : ∀ (kV doc pm : Value) (an : Option Addr) (cdv ct : Value) (us : List Value), us.length = ps.length → bindArgs (PySem.W.fnOf x x (defArgs st) (defBody st) (defScope st) .none kV doc pm an cdv ct) ⟨us, []⟩ = pure (ps.zip us))
    (hb : ∀ f cdv A outer s H E, Room k (A.deeper (envOfC x (defScope st) s.heap.objs.size f cdv)) → PDSs (bodyCx P w K mg base N x st f cdv A outer s H E) (defBody st) t)
    (hr : ∀ ds M Q E, ds.length = ps.length → sp ds M Q E → t { nx := fun _ M' => Q .non M', rt := Q } (startD N ds) M) : DefOk P w K mg base (k + 1) x ps.length sp := by
  obtain ⟨f, fd, F, hm⟩ := d.ex
  exact ⟨f, fd, ps, def_fn F S hb hr, rfl, hm, F.kp, F.bindsN bind⟩
/-- a promise that nobody can ask for -/
theorem def_void {P : Program} {w : World} {K : PySem.W.Frag} {mg : Str → Option Value} {base : Heap} {k : Nat} {x : Str} {st : Stmt} {ps : List Str} {sp : SpD} (d : DefAt K mg x st)
    (bind : ∀ (kV doc pm : Value) (an : Option Addr) (cdv ct : Value) (us : List Value), us.length = ps.length → bindArgs (PySem.W.fnOf x x (defArgs st) (defBody st) (defScope st) .none kV doc pm an cdv ct) ⟨us, []⟩ = pure (ps.zip us))
    (z : ∀ ds M Q E, sp ds M Q E → False) : DefOk P w K mg base k x ps.length sp := by
  obtain ⟨f, fd, F, hm⟩ := d.ex
  exact ⟨f, fd, ps, ⟨fun vs H Q E ⟨R, F, M, ds, Qd, Ed, _, r, hl, _⟩ => by rw [← r.length, hl], fun A outer s H args us vs Q E _ _ _ _ ⟨R, F, M, ds, Qd, Ed, _, r, hl, h, _⟩ => (z _ _ _ _ h).elim⟩, rfl, hm, F.kp, F.bindsN bind⟩
section
variable {X : Cx} {e : Expr} {es : List Expr} {te ta tb : DE} {t : DA} {pos p : Pos} {a b : Expr}
def dCall (sp : SpD) (t : DA) : DE := fun env M Q => t env M fun ds M1 => sp ds M1 Q X0
theorem pd_call {k : Nat} {x : Str} {n : Nat} {sp : SpD} (d : DefOk X.prog X.w X.K X.mg X.base k x n sp) (hr : Room k X.A) (ha : PDA X (e :: es) t) (hn : (e :: es).length = n := by rfl) (hg : Gl X x := by rfl)
    (hdb : (x == ("__debug__" : Str)) = false := by decide) (he : starEach (e :: es) X.env = (false, eval e X.env) :: starEach es X.env := by rfl) (hpl : (backTo pos (starEach es X.env)).any (·.1) = false := by rfl) :
    PDE X (.Call (.Name x p) (e :: es) [] pos) (dCall sp t) := by
  obtain ⟨f, fd, ps, F, hl, hm, hk, hb⟩ := d.ex
  refine pe_imp (pe_call F hr hg hm hk hb .nil passE0 ha hdb he hpl) fun σ H Q ⟨R, F, env, M, Qd, a, e, h, k⟩ => ⟨R, F, env, M, _, a, e, h, fun F1 H1 M1 ds vs s1 a1 r1 l1 q1 => ?_⟩
  show upSp X.K n sp (vs ++ []) H1 Q E0
  rw [List.append_nil]
  exact ⟨R, F1, M1, ds, Qd, X0, a1, r1, by rw [l1, hn], q1, k.mono s1, kx0⟩
theorem pd_call0 {k : Nat} {x : Str} {sp : SpD} (d : DefOk X.prog X.w X.K X.mg X.base k x 0 sp) (hr : Room k X.A) (hg : Gl X x := by rfl)
    (hdb : (x == ("__debug__" : Str)) = false := by decide) : PDE X (.Call (.Name x p) [] [] pos) (dCall sp dNil) := by
  obtain ⟨f, fd, ps, F, hl, hm, hk, hb⟩ := d.ex
  refine pe_imp (pe_call0 F hr hg hm hk hb .nil passE0 hdb) fun σ H Q ⟨R, F, env, M, Qd, a, e, h, k⟩ => ?_
  exact ⟨R, F, M, [], Qd, X0, a, rfl, rfl, h, k, kx0⟩
theorem gives_list {K : PySem.W.Frag} {F : Hp} {a : Addr} {xs : List V} {ds : List D} (h : SqL K F a xs) (r : Reps K F ds xs) (hz : xs.length ≤ sizeLine) : Gives K (Itl K a) F ds := by
  refine ⟨by rw [r.length]; exact hz, fun R F' M H s a' => ⟨xs, a'.fz.seq (s.seq h), by rw [r.length]; exact Nat.le_refl _⟩, fun i d R F' M H s a' hi => ?_⟩
  obtain ⟨x, hx, rx⟩ := r.get hi
  refine ⟨⟨xs, x, a'.fz.seq (s.seq h), hx⟩, fun y H' ⟨e, q⟩ => ?_⟩
  have := q xs (a'.fz.seq (s.seq h))
  rw [hx] at this; cases this
  exact ⟨F', Same.refl _, by rw [e]; exact a', rx.mono s⟩
/-- one sign as a text -/
def sgn (c : Nat) : D := .str ⟨#[c]⟩
def signs (x : Str) : List D := x.cps.toList.map sgn
theorem sgn_ok {x : Str} (h : SOk x) {c : Nat} (hc : c ∈ x.cps.toList) : SOk ⟨#[c]⟩ :=
  ⟨by show 1 ≤ sizeLine; decide, fun d hd => by
    have e : d = c := by simpa using hd
    rw [e]; exact h.2 c hc⟩
def rng (lo : Int) (n : Nat) : List D := (List.range n).map fun (i : Nat) => D.int (lo + i)
theorem rng_length {lo : Int} {n : Nat} : (rng lo n).length = n := by simp [rng]
theorem gives_range {K : PySem.W.Frag} {F : Hp} {lo : Int} {n : Nat} (h : n ≤ sizeLine) : Gives K (Itr lo n) F (rng lo n) := by
  refine ⟨by rw [rng_length]; exact h, fun R F' M H s a' => by show n ≤ _; rw [rng_length]; exact Nat.le_refl _, fun i d R F' M H s a' hi => ?_⟩
  have hlt : i < n := by have := (List.getElem?_eq_some_iff.mp hi).1; rwa [rng_length] at this
  refine ⟨hlt, fun y H' ⟨e, ey⟩ => ⟨F', Same.refl _, by rw [e]; exact a', ?_⟩⟩
  unfold rng at hi
  rw [List.getElem?_map, List.getElem?_range hlt] at hi
  cases hi
  exact ey
/-- a frozen list -/
def iLst (te : DE) : DI := fun env M Q => te env M fun d M1 => match d with
  | .lst ds => Q ds M1
  | _ => False
/-- the value with the heap that is held -/
theorem pe_held {t : TE} (h : PE X e t) : PE X e (fun σ H Q => t σ H fun v H1 => (∀ (pins : List (Addr × Obj)) (s : Shared) (σ : L2.St), Inv X pins σ H1 s → Q v H1)) :=
  ⟨fun pins s σ H Q I q => thn (h.run pins s σ H _ I q) fun u s1 ⟨v, H1, I1, r, q1⟩ => ⟨v, H1, I1, r, q1 pins s1 σ I1⟩⟩
theorem pa_held {ta : TA} (h : PA X es ta) : PA X es (fun σ H Q => ta σ H fun v H1 => (∀ (pins : List (Addr × Obj)) (s : Shared) (σ : L2.St), Inv X pins σ H1 s → Q v H1)) :=
  ⟨fun pos pins s σ H Q I q => thn (h.run pos pins s σ H _ I q) fun u s1 ⟨v, H1, I1, r, q1⟩ => ⟨v, H1, I1, r, q1 pins s1 σ I1⟩⟩
theorem pdi_lst {tg : Expr} (he : PDE X e te) : PDI X tg e (iLst te) := by
  refine pi_imp (pi_list (pe_held he)) fun σ H Z ⟨R, F, env, M, Qd, a, e, h, k⟩ => ⟨R, F, env, M, _, a, e, h, fun F1 H1 M1 d v s1 a1 r1 q1 pins s σ I => ?_⟩
  cases d with
  | lst ds =>
    obtain ⟨p, xs, rfl, hq', rx⟩ := r1
    have hq : SqL X.K F1 p xs := SqL.of hq'
    have hH := a1.fz.seq hq
    obtain ⟨its, rv, pl, hz⟩ := I.list hH
    exact ⟨p, rfl, ⟨xs, hH⟩, k F1 H1 M1 ds _ s1 a1 (gives_list hq rx hz) q1⟩
  | _ => exact q1.elim
def small (n : Int) : Prop := n ≤ 16777216
def iRange1 (t : DA) : DI := fun env M Q => t env M fun ds M1 => match ds with
  | [.int n] => (-16777216 ≤ n ∧ n ≤ 16777216) ∧ Q (rng 0 n.toNat) M1
  | _ => False
theorem pdi_range1 {tg : Expr} (hm : X.mg "range" = none) (ha : PDA X [a] t) (hg : Gl X "range" := by rfl) (hs : starEach [a] X.env = [(false, eval a X.env)] := by rfl) : PDI X tg (.Call (.Name "range" p) [a] [] pos) (iRange1 t) := by
  refine pi_imp (pi_range1 hg hm ha hs) fun σ H Z ⟨R, F, env, M, Qd, a, e, h, k⟩ => ⟨R, F, env, M, _, a, e, h, fun F1 H1 M1 ds vs s1 a1 r1 l1 q1 => ?_⟩
  split at q1
  · rename_i n
    obtain ⟨x, r, rfl, rx, rfl⟩ := r1
    obtain ⟨⟨b1, b2⟩, q1⟩ := q1
    exact ⟨n, by rw [show x = V.int n from rx], by omega, by omega, k F1 H1 M1 _ _ s1 a1 (gives_range (by rw [sizeLine_eq]; omega)) q1⟩
  · exact q1.elim
/-- a new tuple of each turn -/
theorem new_pair {K : PySem.W.Frag} {R F : Hp} {M : Mp} {H : Hp} {T : Addr} {d g : D} {x y : V} (a : At K R F M H) (hT : H T = none) (r1 : Rep K F d x) (r2 : Rep K F g y) : ∃ F2, Same F F2 ∧ At K R F2 M (upd H T (.tup [x, y])) ∧ Rep K F2 (.tup [d, g]) (.ref T) := by
  obtain ⟨a1, s1⟩ := a.laid hT (.tup [x, y])
  exact ⟨_, s1, a1, T, [x, y], rfl, SqT.of upd_same, x, [y], rfl, r1.mono s1, y, [], rfl, r2.mono s1, rfl⟩
/-- zip of two frozen lists, of two tuples -/
def iZipD (t : DA) : DI := fun env M Q => t env M fun ds M1 => match ds with
  | [.lst xs, .lst ys] => Q (List.zipWith (fun x y => .tup [x, y]) xs ys) M1
  | [.tup xs, .tup ys] => Q (List.zipWith (fun x y => .tup [x, y]) xs ys) M1
  | _ => False
theorem zip_at {xs ys : List D} {i : Nat} {d : D} (h : (List.zipWith (fun x y => D.tup [x, y]) xs ys)[i]? = some d) : ∃ x y, xs[i]? = some x ∧ ys[i]? = some y ∧ d = .tup [x, y] := by
  rw [List.getElem?_zipWith] at h
  cases hx : xs[i]? with
  | none => rw [hx] at h; cases h
  | some x =>
    cases hy : ys[i]? with
    | none => rw [hx, hy] at h; cases h
    | some y => rw [hx, hy] at h; cases h; exact ⟨x, y, rfl, rfl, rfl⟩
theorem pdi_zip {e2 : Expr} {elts : List Expr} {kk : Nat} {tpos : Pos} (hm : X.mg "zip" = none) (ha : PDA X [e, e2] t) (hg : Gl X "zip" := by rfl)
    (hs : starEach [e, e2] X.env = (false, eval e X.env) :: starEach [e2] X.env := by rfl) (hpl : (backTo pos (starEach [e2] X.env)).any (·.1) = false := by rfl) : PDI X (.Tuple elts kk tpos) (.Call (.Name "zip" p) [e, e2] [] pos) (iZipD t) := by
  refine pi_imp (RZ.pi_zipA hg hm (pa_held ha) hs hpl) fun σ H Z ⟨R, F, env, M, Qd, a, e, h, k⟩ => ⟨R, F, env, M, _, a, e, h, fun F1 H1 M1 ds vs s1 a1 r1 l1 q1 pins s σ I => ?_⟩
  split at q1
  · rename_i xs ys
    obtain ⟨_, _, rfl, ⟨p, vx, rfl, hx', rx⟩, _, _, rfl, ⟨p2, vy, rfl, hy', ry⟩, rfl⟩ := r1
    have hx : SqL X.K F1 p vx := SqL.of hx'
    have hy : SqL X.K F1 p2 vy := SqL.of hy'
    obtain ⟨_, _, _, hz⟩ := I.list (a1.fz.seq hx)
    have lx := rx.length
    have ly := ry.length
    refine ⟨p, p2, vx, vy, rfl, .inl ⟨a1.fz.seq hx, a1.fz.seq hy, k F1 H1 M1 _ _ s1 a1 ⟨by rw [List.length_zipWith]; omega, fun R F' M H s a' => ⟨vx, vy, a'.fz.seq (s.seq hx), a'.fz.seq (s.seq hy), by rw [List.length_zipWith]; omega⟩, fun i d R F' M H s a' hi => ?_⟩ q1⟩⟩
    obtain ⟨x, y, h1, h2, rfl⟩ := zip_at hi
    obtain ⟨u, hu, ru⟩ := rx.get h1
    obtain ⟨v, hv, rv⟩ := ry.get h2
    refine ⟨⟨vx, vy, u, v, a'.fz.seq (s.seq hx), a'.fz.seq (s.seq hy), hu, hv⟩, fun v' H' ⟨T, x', y', ev, hT, eH, z1, z2⟩ => ?_⟩
    have e1 := z1 vx (a'.fz.seq (s.seq hx)); rw [hu] at e1; cases e1
    have e2 := z2 vy (a'.fz.seq (s.seq hy)); rw [hv] at e2; cases e2
    subst ev eH
    exact new_pair a' hT (ru.mono s) (rv.mono s)
  · rename_i xs ys
    obtain ⟨_, _, rfl, ⟨p, vx, rfl, hx, rx⟩, _, _, rfl, ⟨p2, vy, rfl, hy, ry⟩, rfl⟩ := r1
    obtain ⟨_, _, _, hz⟩ := I.tuple (Same.seqT a1.fz hx)
    have lx := rx.length
    have ly := ry.length
    refine ⟨p, p2, vx, vy, rfl, .inr ⟨Same.seqT a1.fz hx, Same.seqT a1.fz hy, k F1 H1 M1 _ _ s1 a1 ⟨by rw [List.length_zipWith]; omega, fun R F' M H s a' => ⟨vx, vy, Same.seqT a'.fz (Same.seqT s hx), Same.seqT a'.fz (Same.seqT s hy), by rw [List.length_zipWith]; omega⟩, fun i d R F' M H s a' hi => ?_⟩ q1⟩⟩
    obtain ⟨x, y, h1, h2, rfl⟩ := zip_at hi
    obtain ⟨u, hu, ru⟩ := rx.get h1
    obtain ⟨v, hv, rv⟩ := ry.get h2
    refine ⟨⟨vx, vy, u, v, Same.seqT a'.fz (Same.seqT s hx), Same.seqT a'.fz (Same.seqT s hy), hu, hv⟩, fun v' H' ⟨T, x', y', ev, hT, eH, z1, z2⟩ => ?_⟩
    have e1 := z1 vx (Same.seqT a'.fz (Same.seqT s hx)); rw [hu] at e1; cases e1
    have e2 := z2 vy (Same.seqT a'.fz (Same.seqT s hy)); rw [hv] at e2; cases e2
    subst ev eH
    exact new_pair a' hT (ru.mono s) (rv.mono s)
  · exact q1.elim
def r2I (C : Int → Int → Prop) (g : Int → Int → D) : R2D := fun d e M Q => match d, e with
  | .int i, .int j => C i j ∧ Q (g i j) M
  | _, _ => False
def r2J (g : Int → Int → D) : R2D := fun d e M Q => match d, e with
  | .int i, .int j => Q (g i j) M
  | _, _ => False
abbrev rSubI : R2D := r2J fun i j => .int (i - j)
abbrev rMulI : R2D := r2I CMul fun i j => .int (i * j)
abbrev rModI : R2D := r2I (fun _ j => 0 < j) fun i j => .int (i % j)
abbrev rPowI : R2D := r2I CPow fun i j => .int (i ^ j.toNat)
abbrev rLtI : R2D := r2J fun i j => .bl (decide (i < j))
abbrev rGtI : R2D := r2J fun i j => .bl (decide (j < i))
abbrev rGeI : R2D := r2J fun i j => .bl (decide (j ≤ i))
theorem opd_int {f : Value → Value → Sem Value} {C : Int → Int → Prop} {g : Int → Int → V} {gd : Int → Int → D} (h : OpR X f (rI C g)) (hg : ∀ K F i j, Rep K F (gd i j) (g i j)) : OpD X f (r2I C gd) :=
  ⟨_, h, fun R F M H d e x y Qd Q a r1 r2 q k => by
    unfold r2I at q
    split at q
    · rename_i i j
      exact ⟨i, j, r1, r2, q.1, k F H M _ _ (Same.refl _) a (hg _ _ _ _) q.2⟩
    · exact q.elim⟩
theorem opd_int0 {f : Value → Value → Sem Value} {g : Int → Int → V} {gd : Int → Int → D} (h : OpR X f (rI0 g)) (hg : ∀ K F i j, Rep K F (gd i j) (g i j)) : OpD X f (r2J gd) :=
  ⟨_, h, fun R F M H d e x y Qd Q a r1 r2 q k => by
    unfold r2J at q
    split at q
    · rename_i i j
      exact ⟨i, j, r1, r2, k F H M _ _ (Same.refl _) a (hg _ _ _ _) q⟩
    · exact q.elim⟩
theorem opd_subI : OpD X (binaryOp .Sub) rSubI := opd_int0 op_sub fun _ _ _ _ => rfl
theorem opd_mulI : OpD X (binaryOp .Mult) rMulI := opd_int op_mul fun _ _ _ _ => rfl
theorem opd_mod : OpD X (binaryOp .Mod) rModI := opd_int op_mod fun _ _ _ _ => rfl
theorem opd_pow : OpD X (binaryOp .Pow) rPowI := opd_int op_pow fun _ _ _ _ => rfl
theorem opd_lt : OpD X (compareOp .Lt) rLtI := opd_int0 op_lt fun _ _ _ _ => rfl
theorem opd_gt : OpD X (compareOp .Gt) rGtI := opd_int0 op_gt fun _ _ _ _ => rfl
theorem opd_ge : OpD X (compareOp .GtE) rGeI := opd_int0 op_ge fun _ _ _ _ => rfl
end
end L3
set_option Elab.async false
set_option linter.all false
set_option maxRecDepth 100000
set_option maxHeartbeats 1000000
namespace L3
open PySem PySem.Spec PyProof.Rows L2
mutual
def D.py : D → PyData
  | .non => .none
  | .bl b => .bool b
  | .int i => .int i
  | .str x => .str x
  | .tup ds => .tuple (D.pys ds)
  | .lst ds => .list (D.pys ds)
  | _ => .none
def D.pys : List D → List PyData
  | [] => []
  | d :: ds => D.py d :: D.pys ds
end
mutual
/-- no references within, at most n deep -/
def D.le : Nat → D → Bool
  | _, .non => true
  | _, .bl _ => true
  | _, .int _ => true
  | _, .str _ => true
  | n + 1, .tup ds => D.les n ds
  | n + 1, .lst ds => D.les n ds
  | _, _ => false
def D.les : Nat → List D → Bool
  | _, [] => true
  | n, d :: ds => D.le n d && D.les n ds
end
def eqD (d e : D) : Bool := PyData.eqv d.py e.py
section
variable {K : PySem.W.Frag} {F : Hp}
mutual
theorem py_dp : ∀ {n : Nat} {d : D} {v : V}, Rep K F d v → D.le n d = true → Dp K F v d.py ∧ d.py.canLay0 = true ∧ d.py.depth ≤ n + 1
  | n, .non, _, r, _ => by cases r; exact ⟨.non, rfl, by simp [D.py, PyData.depth]⟩
  | n, .bl b, _, r, _ => by cases r; exact ⟨.bl b, rfl, by simp [D.py, PyData.depth]⟩
  | n, .int i, _, r, _ => by cases r; exact ⟨.int i, rfl, by simp [D.py, PyData.depth]⟩
  | n, .str x, _, ⟨r, z⟩, _ => by
    cases r
    refine ⟨.str x, ?_, by simp [D.py, PyData.depth]⟩
    simp only [D.py, PyData.canLay0, PyData.strOk, Array.all_eq_true]
    intro i hi
    exact decide_eq_true (z.2 _ (by simp))
  | n + 1, .tup ds, _, ⟨a, xs, e, q, r⟩, h => by
    subst e
    obtain ⟨h1, h2, h3⟩ := pys_dp r (show D.les n ds = true by simpa [D.le] using h)
    exact ⟨.tup q h1, by simpa [D.py, PyData.canLay0] using h2, by simp only [D.py, PyData.depth]; omega⟩
  | n + 1, .lst ds, _, ⟨a, xs, e, q, r⟩, h => by
    subst e
    obtain ⟨h1, h2, h3⟩ := pys_dp r (show D.les n ds = true by simpa [D.le] using h)
    exact ⟨.lst (SqL.of q) h1, by simpa [D.py, PyData.canLay0] using h2, by simp only [D.py, PyData.depth]; omega⟩
  | 0, .tup ds, _, _, h => by simp [D.le] at h
  | 0, .lst ds, _, _, h => by simp [D.le] at h
  | _, .ref _, _, _, h => by simp [D.le] at h
  | _, .ty _, _, _, h => by simp [D.le] at h
  | _, .lsk _, _, _, h => by simp [D.le] at h
  | _, .dct _ _, _, _, h => by simp [D.le] at h
  | _, .obj _ _, _, _, h => by simp [D.le] at h
  | _, .dkd _ _ _, _, _, h => by simp [D.le] at h
  | _, .exc _ _ _ _, _, _, h => by simp [D.le] at h
  | _, .fn _ _ _, _, _, h => by simp [D.le] at h
theorem pys_dp : ∀ {n : Nat} {ds : List D} {vs : List V}, Reps K F ds vs → D.les n ds = true → DpAll K F vs (D.pys ds) ∧ PyData.canLayAll0 (D.pys ds) = true ∧ PyData.depthAll (D.pys ds) ≤ n + 1
  | n, [], _, r, _ => by cases r; exact ⟨.nil, by simp [D.pys, PyData.canLayAll0], by simp [D.pys, PyData.depthAll]⟩
  | n, d :: ds, _, ⟨x, r, e, r1, r2⟩, h => by
    subst e
    have h' : D.le n d = true ∧ D.les n ds = true := by simpa [D.les] using h
    obtain ⟨a1, a2, a3⟩ := py_dp r1 h'.1
    obtain ⟨b1, b2, b3⟩ := pys_dp r2 h'.2
    exact ⟨.cons a1 b1, by simp [D.pys, PyData.canLayAll0, a2, b2], by simp only [D.pys, PyData.depthAll]; omega⟩
end
theorem py_shaped {d : D} {v : V} (r : Rep K F d v) (h : D.le 60 d = true) : Dp K F v d.py ∧ SeqAt.shaped d.py = true := by
  obtain ⟨h1, h2, h3⟩ := py_dp r h
  exact ⟨h1, by unfold SeqAt.shaped; rw [h2, decide_eq_true (by omega)]; rfl⟩
end
theorem dp_mono {K : PySem.W.Frag} {F H : Hp} (s : Same F H) {v : V} {d : PyData} (h : Dp K F v d) : Dp K H v d := by
  refine Dp.rec (motive_1 := fun v d _ => Dp K H v d) (motive_2 := fun vs ds _ => DpAll K H vs ds) ?_ ?_ ?_ ?_ ?_ ?_ ?_ ?_ h
  · exact .non
  · exact .bl
  · exact .int
  · exact .str
  · intro a xs ds q _ ih; exact .lst (s.seq q) ih
  · intro a xs ds q _ ih; exact .tup (Same.seqT s q) ih
  · exact .nil
  · intro v vs d ds _ _ i1 i2; exact .cons i1 i2
/-- an own list that is held by a reference, as it stands -/
def resD (M : Mp) (d : D) : D := match d with
  | .ref q => match M q with
    | some (.lst ds) => .lst ds
    | _ => d
  | _ => d
/-- .. and where it stands in the heap -/
theorem res_rep {K : PySem.W.Frag} {R F : Hp} {M : Mp} {H : Hp} {d : D} {v : V} (a : At K R F M H) (r : Rep K F d v) : Rep K H (resD M d) v := by
  unfold resD
  split
  · rename_i q
    split
    · rename_i ds hm
      obtain ⟨_, u, hu, xs, rfl, rx⟩ := a.mu _ _ hm
      exact ⟨q, xs, r, hu, rx.mono a.fz⟩
    · exact r
  · exact r.mono a.fz
/-- a dict as it stands -/
def resK (M : Mp) (d : D) : Option (List L2.Key × List D) := match d with
  | .dct ks ds => some (ks, ds)
  | .ref q => match M q with
    | some (.dct ks ds) => some (ks, ds)
    | _ => none
  | _ => none
theorem resK_at {K : PySem.W.Frag} {R F : Hp} {M : Mp} {H : Hp} {d : D} {v : V} {ks : List L2.Key} {ds : List D} (a : At K R F M H) (r : Rep K F d v) (h : resK M d = some (ks, ds)) :
    ∃ p xs, v = .ref p ∧ Rd H p (.dK (ks.zip xs)) ∧ KsOk ks ds ∧ Reps K F ds xs := by
  unfold resK at h
  split at h
  · cases h
    obtain ⟨p, o, xs, rfl, hq, l, rx⟩ := r
    exact ⟨p, xs, rfl, .inr ⟨o, a.fz _ _ hq⟩, l, rx⟩
  · split at h
    · rename_i hm
      cases h
      obtain ⟨_, u, hu, xs, rfl, l, rx⟩ := a.mu _ _ hm
      exact ⟨_, xs, r, .inl hu, l, rx⟩
    · cases h
  · cases h
theorem resK_get {K : PySem.W.Frag} {R F : Hp} {M : Mp} {H : Hp} {d e : D} {x y : V} {ks : List L2.Key} {ds : List D} {k : L2.Key} (a : At K R F M H) (r : Rep K F d x) (r2 : Rep K F e y) (h : resK M d = some (ks, ds)) (hk : keyD e = some k) :
    ∃ p o, x = .ref p ∧ DGet H p y o ∧ (∀ g, findK ks ds k = some g → ∃ v, o = some v ∧ Rep K F g v) ∧ (findK ks ds k = none → o = none) := by
  obtain ⟨p, xs, rfl, hr, l, rx⟩ := resK_at a r h
  obtain ⟨h1, h2⟩ := findK_some (j := k) l.1 rx
  exact ⟨p, _, rfl, .inl ⟨_, k, hr, keyD_ok r2 hk, rfl⟩, h1, h2⟩
def rEqDD (g : Bool → Bool) : R2D := fun d e M Q => (D.le 60 (resD M d) = true ∧ D.le 60 (resD M e) = true) ∧ Q (.bl (g (eqD (resD M d) (resD M e)))) M
section
variable {X : Cx}
theorem opd_eq {k : Nat} (hr : Room k X.A) : OpD X (compareOp .Eq) (rEqDD id) := ⟨_, op_eqD hr.units, fun R F M H d e x y Qd Q a r1 r2 ⟨⟨l1, l2⟩, q⟩ kd => by
  obtain ⟨d1, s1⟩ := py_shaped (res_rep a r1) l1
  obtain ⟨d2, s2⟩ := py_shaped (res_rep a r2) l2
  exact ⟨_, _, d1, d2, s1, s2, kd F H M (.bl _) _ (Same.refl _) a rfl q⟩⟩
theorem opd_ne {k : Nat} (hr : Room k X.A) : OpD X (compareOp .NotEq) (rEqDD not) := ⟨_, op_neD hr.units, fun R F M H d e x y Qd Q a r1 r2 ⟨⟨l1, l2⟩, q⟩ kd => by
  obtain ⟨d1, s1⟩ := py_shaped (res_rep a r1) l1
  obtain ⟨d2, s2⟩ := py_shaped (res_rep a r2) l2
  exact ⟨_, _, d1, d2, s1, s2, kd F H M (.bl _) _ (Same.refl _) a rfl q⟩⟩
/-- is None, is not None -/
def isNonD : D → Bool
  | .non => true
  | _ => false
theorem isNonD_ok {K : PySem.W.Frag} {F : Hp} {d : D} {v : V} (r : Rep K F d v) : decide (v = .non) = isNonD d := by
  cases d with
  | non => cases r; rfl
  | bl b => cases r; rfl
  | int b => cases r; rfl
  | str b => obtain ⟨r, _⟩ := r; cases r; rfl
  | ty b => cases r; rfl
  | ref b => cases r; rfl
  | tup ds => obtain ⟨_, _, rfl, _⟩ := r; rfl
  | lst ds => obtain ⟨_, _, rfl, _⟩ := r; rfl
  | lsk ds => obtain ⟨_, _, rfl, _⟩ := r; rfl
  | dct ks ds => obtain ⟨_, _, _, rfl, _⟩ := r; rfl
  | obj c ds => obtain ⟨_, _, _, rfl, _⟩ := r; rfl
  | dkd w ks ds => obtain ⟨_, _, _, rfl, _⟩ := r; rfl
  | exc p dd ns ds => obtain ⟨rfl, _⟩ := r; rfl
  | fn p c q => obtain ⟨rfl, _⟩ := r; rfl
def rIsD (g : Bool → Bool) : R2D := fun d e M Q => match e with
  | .non => Q (.bl (g (isNonD d))) M
  | _ => False
theorem opd_is : OpD X (compareOp .Is) (rIsD id) := ⟨_, op_isN, fun R F M H d e x y Qd Q a r1 r2 q kd => by
  cases e with
  | non => exact ⟨r2, by rw [isNonD_ok r1]; exact kd F H M (.bl _) _ (Same.refl _) a rfl q⟩
  | _ => exact q.elim⟩
/-- + of ints, texts, tuples, frozen lists -/
def rAddD : R2D := fun d e M Q => match d, e with
  | .int i, .int j => Q (.int (i + j)) M
  | .str x, .str y => x.length + y.length ≤ sizeLine ∧ Q (.str (x ++ y)) M
  | .tup xs, .tup ys => xs.length + ys.length ≤ sizeLine ∧ Q (.tup (xs ++ ys)) M
  | .lst xs, .lst ys => xs.length + ys.length ≤ sizeLine ∧ Q (.lst (xs ++ ys)) M
  | _, _ => False
theorem sok_append {x y : Str} (h : SOk x) (h' : SOk y) (hz : x.length + y.length ≤ sizeLine) : SOk (x ++ y) := by
  have e : (x ++ y).cps = x.cps ++ y.cps := rfl
  refine ⟨by show (x ++ y).cps.size ≤ _; rw [e, Array.size_append]; exact hz, fun c hc => ?_⟩
  rw [e, Array.toList_append, List.mem_append] at hc
  exact hc.elim (h.2 c) (h'.2 c)
theorem opd_add : OpD X (binaryOp .Add) rAddD := ⟨_, op_add.or (op_add_str.or (op_catA.or op_cat)), fun R F M H d e x y Qd Q a r1 r2 q kd => by
  unfold rAddD at q
  split at q
  · rename_i i j
    exact .inl ⟨i, j, r1, r2, kd F H M (.int _) _ (Same.refl _) a rfl q⟩
  · rename_i z w
    exact .inr (.inl ⟨z, w, r1.1, r2.1, q.1, kd F H M (.str _) _ (Same.refl _) a ⟨rfl, sok_append r1.2 r2.2 q.1⟩ q.2⟩)
  · rename_i xs ys
    obtain ⟨p, vx, rfl, hx, rx⟩ := r1
    obtain ⟨p2, vy, rfl, hy, ry⟩ := r2
    have lx := rx.length
    have ly := ry.length
    refine .inr (.inr (.inl ⟨p, p2, vx, vy, rfl, rfl, Same.seqT a.fz hx, Same.seqT a.fz hy, by omega, fun e => ?_, fun _ e => ?_, fun _ _ P hP => tup_new a (rx.append ry) kd q.2 hP⟩))
    · have : xs = [] := List.eq_nil_of_length_eq_zero (by rw [lx, e]; rfl)
      subst this
      exact kd F H M (.tup ys) _ (Same.refl _) a ⟨p2, vy, rfl, hy, ry⟩ q.2
    · have : ys = [] := List.eq_nil_of_length_eq_zero (by rw [ly, e]; rfl)
      subst this
      exact kd F H M (.tup xs) _ (Same.refl _) a ⟨p, vx, rfl, hx, rx⟩ (by have := q.2; rwa [List.append_nil] at this)
  · rename_i xs ys
    obtain ⟨p, vx, rfl, hx, rx⟩ := r1
    obtain ⟨p2, vy, rfl, hy, ry⟩ := r2
    have lx := rx.length
    have ly := ry.length
    exact .inr (.inr (.inr ⟨p, p2, vx, vy, rfl, rfl, a.fz _ _ hx, a.fz _ _ hy, by omega, fun P hP => lst_new a (rx.append ry) kd q.2 hP⟩))
  · exact q.elim⟩
/-- x in xs -/
def strIn (x y : Str) : Bool := !(Builtin.Str.occurrences y x 0 y.length 1).isEmpty
def rInK (g : Bool → Bool) (d e : D) (M : Mp) (Q : DK) : Prop := match resK M e with
  | some (ks, ds) => match keyD d with
    | some k => Q (.bl (g (findK ks ds k).isSome)) M
    | none => False
  | none => False
def rInDD (g : Bool → Bool) : R2D := fun d e M Q => match resD M e with
  | .str y => match d with
    | .str x => Q (.bl (g (strIn x y))) M
    | _ => False
  | .lst ys => (D.le 60 d = true ∧ D.les 58 ys = true) ∧ Q (.bl (g (ys.any fun z => eqD z d))) M
  | .tup ys => (D.le 60 d = true ∧ D.les 58 ys = true) ∧ Q (.bl (g (ys.any fun z => eqD z d))) M
  | _ => rInK g d e M Q
theorem any_py (ys : List D) (d : D) : ((D.pys ys).any fun z => PyData.eqv z d.py) = ys.any fun z => eqD z d := by
  induction ys with
  | nil => rfl
  | cons y ys ih => simp only [D.pys, List.any_cons, ih, eqD]
theorem lst_shaped {K : PySem.W.Frag} {F : Hp} {ys : List D} {v : V} (r : Rep K F (.lst ys) v) (h : D.les 58 ys = true) : Dp K F v (.list (D.pys ys)) ∧ SeqAt.shaped (.list (D.pys ys)) = true := by
  obtain ⟨h1, h2, h3⟩ := py_dp (n := 59) r (by simpa [D.le] using h)
  simp only [D.py] at h1 h2 h3
  exact ⟨h1, by unfold SeqAt.shaped; rw [h2, decide_eq_true (by omega)]; rfl⟩
theorem tup_shaped {K : PySem.W.Frag} {F : Hp} {ys : List D} {v : V} (r : Rep K F (.tup ys) v) (h : D.les 58 ys = true) : Dp K F v (.tuple (D.pys ys)) ∧ SeqAt.shaped (.tuple (D.pys ys)) = true := by
  obtain ⟨h1, h2, h3⟩ := py_dp (n := 59) r (by simpa [D.le] using h)
  simp only [D.py] at h1 h2 h3
  exact ⟨h1, by unfold SeqAt.shaped; rw [h2, decide_eq_true (by omega)]; rfl⟩
/-- y in a dict -/
def rInT (g : Bool → Bool) : R2 := fun y x H Q => ∃ a o, x = .ref a ∧ DGet H a y o ∧ Q (.bl (g o.isSome)) H
theorem op_inT (hu : X.A.units + 1 < cLine) : OpR X (compareOp .In) (rInT id) := by
  intro pins s σ H y x v u Q I ry rx ⟨a, o, e, g, q⟩
  subst e
  obtain rfl : u = Value.ref a := rx
  exact d_in hu I g ry fun s' I' => ⟨.bl o.isSome, H, I', rfl, q⟩
theorem in_served {K : PySem.W.Frag} (g : Bool → Bool) {rS rL : R2} (hS : ∀ i j H (Q : VK), Q (.bl (g (!(Builtin.Str.occurrences j i 0 j.length 1).isEmpty))) H → rS (.str i) (.str j) H Q)
    (hL : ∀ x y (d : PyData) (ds : List PyData) H (Q : VK), Dp K H x d → (Dp K H y (.list ds) ∧ SeqAt.shaped (.list ds) = true ∨ Dp K H y (.tuple ds) ∧ SeqAt.shaped (.tuple ds) = true) → SeqAt.shaped d = true → Q (.bl (g (ds.any fun z => PyData.eqv z d))) H → rL x y H Q) :
    Serves2 K (rInDD g) (fun x y H Q => rS x y H Q ∨ rL x y H Q ∨ rInT g x y H Q) := fun R F M H d e x y Qd Q a r1 r2 q kd => by
  have r2' := res_rep a r2
  have key : rInK g d e M Qd → rInT g x y H Q := fun q => by
    unfold rInK at q
    split at q
    · rename_i ks ds hr
      split at q
      · rename_i k hk
        obtain ⟨p, o, rfl, hg, h1, h2⟩ := resK_get a r2 r1 hr hk
        refine ⟨p, o, rfl, hg, kd F H M (.bl (g o.isSome)) _ (Same.refl _) a rfl ?_⟩
        have eo : o.isSome = (findK ks ds k).isSome := by
          cases hf : findK ks ds k with
          | none => rw [h2 hf]; rfl
          | some z => obtain ⟨v, e, _⟩ := h1 z hf; rw [e]; rfl
        rw [eo]; exact q
      · exact q.elim
    · exact q.elim
  unfold rInDD at q
  split at q
  · rename_i z hz
    rw [hz] at r2'
    split at q
    · rename_i w
      obtain ⟨e1, _⟩ := r1
      obtain ⟨e2, _⟩ := r2'
      subst e1 e2
      exact .inl (hS w z H Q (kd F H M (.bl _) _ (Same.refl _) a rfl q))
    · exact q.elim
  · rename_i ys hz
    rw [hz] at r2'
    obtain ⟨⟨l1, l2⟩, q⟩ := q
    obtain ⟨d1, s1⟩ := py_shaped (r1.mono a.fz) l1
    obtain ⟨d2, s2⟩ := lst_shaped r2' l2
    exact .inr (.inl (hL x y _ _ H Q d1 (.inl ⟨d2, s2⟩) s1 (by rw [any_py]; exact kd F H M (.bl _) _ (Same.refl _) a rfl q)))
  · rename_i ys hz
    rw [hz] at r2'
    obtain ⟨⟨l1, l2⟩, q⟩ := q
    obtain ⟨d1, s1⟩ := py_shaped (r1.mono a.fz) l1
    obtain ⟨d2, s2⟩ := tup_shaped r2' l2
    exact .inr (.inl (hL x y _ _ H Q d1 (.inr ⟨d2, s2⟩) s1 (by rw [any_py]; exact kd F H M (.bl _) _ (Same.refl _) a rfl q)))
  · exact .inr (.inr (key q))
/-- .. in a tuple -/
def rInU (K : PySem.W.Frag) (g : Bool → Bool) : R2 := fun x y H Q => ∃ d ds, Dp K H x d ∧ Dp K H y (.tuple ds) ∧ SeqAt.shaped d = true ∧ SeqAt.shaped (.tuple ds) = true ∧ Q (.bl (g (ds.any fun z => PyData.eqv z d))) H
theorem op_inU (hu : X.A.units + 65 < cLine) : OpR X (compareOp .In) (rInU X.K id) := by
  intro pins s σ H x y v u Q I rx ry ⟨d, ds, hd, he, sd, se, q⟩
  obtain ⟨as, r1⟩ := Dp.reads I d x v hd rx
  obtain ⟨bs, r2⟩ := Dp.reads I (.tuple ds) y u he ry
  exact SeqAt.in_tuple_reads r2 r1 (SeqAt.canLay_of_shaped se) (SeqAt.canLay_of_shaped sd) (room_in_shaped sd hu) ⟨.bl (ds.any fun z => PyData.eqv z d), H, I, rfl, q⟩
theorem opd_in {k : Nat} (hr : Room k X.A) : OpD X (compareOp .In) (rInDD id) := ⟨_, op_in_str.or (((op_inD (by have := hr.un; omega)).or (op_inU (by have := hr.un; omega))).or (op_inT (by have := hr.un; omega))),
  in_served (rL := fun x y H Q => rInD X.K x y H Q ∨ rInU X.K id x y H Q) id (fun i j H Q q => ⟨i, j, rfl, rfl, q⟩) fun x y d ds H Q d1 d2 s1 q => d2.elim (fun z => .inl ⟨d, ds, d1, z.1, s1, z.2, q⟩) fun z => .inr ⟨d, ds, d1, z.1, s1, z.2, q⟩⟩
variable {a b : Expr} {e : Expr} {es : List Expr} {te ta tb : DE} {t : DA} {pos p : Pos}
def rIxK (d e : D) (M : Mp) (Q : DK) : Prop := match resK M d with
  | some (ks, ds) => match keyD e with
    | some k => match findK ks ds k with
      | some x => Q x M
      | none => False
    | none => False
  | none => False
def rIxI (e : D) (xs : List D) (M : Mp) (Q : DK) : Prop := match e with
  | .int i => match atI xs i with
    | some x => Q x M
    | none => False
  | _ => False
def rIxD : R2D := fun d e M Q => match resD M d with
  | .tup ds => rIxI e ds M Q
  | .lst ds => rIxI e ds M Q
  | .str z => match e with
    | .int i => match atI z.cps.toList i with
      | some c => Q (sgn c) M
      | none => False
    | _ => False
  | _ => rIxK d e M Q
theorem atI_reps {K : PySem.W.Frag} {F : Hp} {ds : List D} {vs : List V} {i : Int} {d : D} (r : Reps K F ds vs) (h : atI ds i = some d) : ∃ v, atI vs i = some v ∧ Rep K F d v := by
  unfold atI at h ⊢
  rw [← r.length]
  cases e : ixN ds.length i with
  | none => rw [e] at h; cases h
  | some j => rw [e] at h; exact r.get h
theorem atI_mem {α : Type} {xs : List α} {i : Int} {v : α} (h : atI xs i = some v) : v ∈ xs := by
  unfold atI at h
  cases e : ixN xs.length i with
  | none => rw [e] at h; cases h
  | some j => rw [e] at h; exact List.mem_of_getElem? h
def rIxT2 : R2 := fun x y H Q => ∃ a v, x = .ref a ∧ DGet H a y (some v) ∧ Q v H
theorem ix_dT (hu : X.A.units + 1 < cLine) : IxR X rIxT2 := by
  intro value slice pins s σ H x y v u Q I rx ry ⟨a, w, e, g, q⟩ hs
  subst e
  obtain rfl : v = Value.ref a := rx
  exact tail_any (dict_typeIs I g) PySem.F.slot_dict_getitem.lookup (d_getItem hu I g ry fun w' s' I' r => ⟨w, H, I', r, q⟩) hs
theorem ixI_el {e : D} {xs : List D} {M : Mp} {Q : DK} (h : rIxI e xs M Q) : ∃ i x, e = .int i ∧ atI xs i = some x ∧ Q x M := by
  unfold rIxI at h
  split at h
  · split at h
    · rename_i hx; exact ⟨_, _, rfl, hx, h⟩
    · exact h.elim
  · exact h.elim
theorem ix_served {K : PySem.W.Frag} : Serves2 K rIxD (fun x y H Q => rIx K x y H Q ∨ rIxT2 x y H Q) := fun R F M H d e x y Qd Q a r1 r2 q kd => by
  -- an item of a frozen sequence is data; of an own one too
  have key : ∀ i ds g, e = .int i → (resD M d = .tup ds ∨ resD M d = .lst ds) → atI ds i = some g → Qd g M → rIx K x y H Q := by
    intro i ds g he hd hg qg
    subst he
    cases (show y = V.int i from r2)
    cases d with
    | tup es =>
      have e1 : es = ds := by rcases hd with z | z <;> cases z; rfl
      subst e1
      obtain ⟨P, vs, rfl, hq, r⟩ := r1
      obtain ⟨v, hv, rv⟩ := atI_reps r hg
      exact .inr (.inl ⟨P, vs, i, v, rfl, rfl, Same.seqT a.fz hq, hv, kd F H M g v (Same.refl _) a rv qg⟩)
    | lst es =>
      have e1 : es = ds := by rcases hd with z | z <;> cases z; rfl
      subst e1
      obtain ⟨P, vs, rfl, hq, r⟩ := r1
      obtain ⟨v, hv, rv⟩ := atI_reps r hg
      exact .inl ⟨P, vs, i, v, rfl, rfl, SqL.of (a.fz _ _ hq), hv, kd F H M g v (Same.refl _) a rv qg⟩
    | ref P =>
      cases (show x = V.ref P from r1)
      simp only [resD] at hd
      split at hd
      · rename_i es hm
        have e1 : es = ds := by rcases hd with z | z <;> cases z; rfl
        subst e1
        obtain ⟨_, u, hu, vs, rfl, r⟩ := a.mu _ _ hm
        obtain ⟨v, hv, rv⟩ := atI_reps r hg
        exact .inl ⟨P, vs, i, v, rfl, rfl, SqL.of hu, hv, kd F H M g v (Same.refl _) a rv qg⟩
      · rcases hd with z | z <;> cases z
    | _ => rcases hd with z | z <;> cases z
  unfold rIxD at q
  split at q
  · rename_i ds hd
    obtain ⟨i, g, he, hg, q⟩ := ixI_el q
    exact .inl (key i ds g he (.inl hd) hg q)
  · rename_i ds hd
    obtain ⟨i, g, he, hg, q⟩ := ixI_el q
    exact .inl (key i ds g he (.inr hd) hg q)
  · rename_i z hd
    split at q
    · rename_i i
      cases (show y = V.int i from r2)
      split at q
      · rename_i c hg
        have rz := res_rep a r1
        rw [hd] at rz
        exact .inl (.inr (.inr ⟨z, i, c, rz.1, rfl, rz.2.1, hg, kd F H M (sgn c) _ (Same.refl _) a ⟨rfl, sgn_ok rz.2 (atI_mem hg)⟩ q⟩))
      · exact q.elim
    · exact q.elim
  · unfold rIxK at q
    split at q
    · rename_i ks ds hr
      split at q
      · rename_i k hk
        split at q
        · rename_i g hg
          obtain ⟨p, o, rfl, hget, h1, _⟩ := resK_get a r1 r2 hr hk
          obtain ⟨v, rfl, rv⟩ := h1 g hg
          exact .inr ⟨p, v, rfl, hget, kd F H M g v (Same.refl _) a rv q⟩
        · exact q.elim
      · exact q.elim
    · exact q.elim
theorem pd_ix {k : Nat} (hr : Room k X.A) (ha : PDE X a ta) (hb : PDE X b tb) (hs : PlainIx b := by intro _ _; rfl) : PDE X (.Subscript a b pos) (dBin rIxD ta tb) := pe_imp (pe_ix (ix_seq.or (ix_dT (by have := hr.un; omega))) ha hb hs) (up_bin ix_served)
abbrev DO := DEnv → Mp → (Option Int → Mp → Prop) → Prop
def upO (K : PySem.W.Frag) (t : DO) : TO := fun σ H Z => ∃ R F env M Qd, At K R F M H ∧ EnvR K F σ env ∧ t env M Qd ∧ ∀ F' H' M' o, Same F F' → At K R F' M' H' → Qd o M' → Z o H'
abbrev PDO (X : Cx) (e : Option Expr) (t : DO) : Prop := PO X e (upO X.K t)
def dNoPart : DO := fun _ M Q => Q none M
def dPart (te : DE) : DO := fun env M Q => te env M fun d M1 => match d with
  | .int i => Q (some i) M1
  | _ => False
theorem po_imp {o : Option Expr} {t t' : TO} (h : PO X o t) (i : ∀ σ H Q, t' σ H Q → t σ H Q) : PO X o t' := ⟨fun pins s σ H Q I q => h.run pins s σ H Q I (i _ _ _ q)⟩
theorem pdo_none : PDO X none dNoPart := po_imp po_none fun σ H Z ⟨R, F, env, M, Qd, a, e, h, k⟩ => k F H M none (Same.refl _) a h
theorem pdo_some (he : PDE X e te) : PDO X (some e) (dPart te) := po_imp (po_some he) fun σ H Z ⟨R, F, env, M, Qd, a, e, h, k⟩ => ⟨R, F, env, M, _, a, e, h, fun F1 H1 M1 d v s1 a1 r1 q1 => by
  cases d with
  | int i => exact ⟨i, r1, k F1 H1 M1 _ s1 a1 q1⟩
  | _ => exact q1.elim⟩
def cut {α : Type} (xs : List α) (lo hi : Option Int) : List α := (xs.drop (HT.sIx xs.length 0 lo)).take (HT.sIx xs.length xs.length hi - HT.sIx xs.length 0 lo)
theorem cut_reps {K : PySem.W.Frag} {F : Hp} {ds : List D} {vs : List V} (r : Reps K F ds vs) (lo hi : Option Int) : Reps K F (cut ds lo hi) (cutV vs lo hi) := by
  unfold cut cutV
  rw [← r.length]
  exact (r.drop _).take _
def dSl (te : DE) (tl th : DO) : DE := fun env M Q => te env M fun d M1 => tl env M1 fun lo M2 => th env M2 fun hi M3 => match resD M3 d with
  | .tup ds => Q (.tup (cut ds lo hi)) M3
  | .lst ds => Q (.lst (cut ds lo hi)) M3
  | .lsk ds => Q (.lst (cut ds lo hi)) M3
  | .str x => Q (.str (cutS x lo hi)) M3
  | _ => False
theorem sok_cut {x : Str} (h : SOk x) (lo hi : Option Int) : SOk (cutS x lo hi) := ⟨Nat.le_trans (cutS_length x lo hi) h.1, fun c hc => h.2 c (by
  unfold cutS at hc
  exact List.mem_of_mem_drop (List.mem_of_mem_take (by simpa using hc)))⟩
theorem pd_slice {lo hi : Option Expr} {tl th : DO} {p2 : Pos} (he : PDE X e te) (hl : PDO X lo tl) (hu : PDO X hi th) : PDE X (.Subscript e (.Slice lo hi none p2) pos) (dSl te tl th) := by
  refine pe_imp (pe_slice (sl_tupA.or (sl_list.or sl_str)) he hl hu) fun σ H Q ⟨R, F, env, M, Qd, a, e, h, k⟩ => ⟨R, F, env, M, _, a, e, h, fun F1 H1 M1 d v s1 a1 r1 q1 =>
    ⟨R, F1, env, M1, _, a1, e.mono s1, q1, fun F2 H2 M2 lo s2 a2 q2 => ⟨R, F2, env, M2, _, a2, (e.mono s1).mono s2, q2, fun F3 H3 M3 hi s3 a3 q3 => ?_⟩⟩⟩
  have r3 := r1.mono (s2.trans s3)
  have k3 := k.mono ((s1.trans s2).trans s3)
  have rr := res_rep a3 r3
  split at q3
  · rename_i ds hd
    have ed : d = .tup ds := by
      cases d with
      | ref q =>
        simp only [resD] at hd
        split at hd <;> cases hd
      | _ => exact hd
    subst ed
    obtain ⟨P, xs, rfl, hq, rx⟩ := r3
    refine .inl ⟨P, xs, rfl, Same.seqT a3.fz hq, fun hw => ?_, fun _ T hT => tup_new a3 (cut_reps rx lo hi) k3 q3 hT⟩
    have ec : cut ds lo hi = ds := by
      unfold cut
      rw [rx.length, hw.1, hw.2, ← rx.length]
      simp
    rw [ec] at q3
    exact k3 F3 H3 M3 (.tup ds) _ (Same.refl _) a3 ⟨P, xs, rfl, hq, rx⟩ q3
  · rename_i ds hd
    rw [hd] at rr
    have rcut : ∃ P xs, v = .ref P ∧ H3 P = some (.lst xs) ∧ Reps X.K F3 ds xs := by
      cases d with
      | ref q =>
        simp only [resD] at hd
        split at hd
        · rename_i es hm
          cases hd
          obtain ⟨_, u, hu, xs, rfl, rx⟩ := a3.mu _ _ hm
          exact ⟨q, xs, r3, hu, rx⟩
        · cases hd
      | lst es =>
        cases hd
        obtain ⟨P, xs, rfl, hq, rx⟩ := r3
        exact ⟨P, xs, rfl, a3.fz _ _ hq, rx⟩
      | _ => cases hd
    obtain ⟨P, xs, rfl, hq, rx⟩ := rcut
    exact .inr (.inl ⟨P, xs, rfl, SqL.of hq, fun T hT => lst_new a3 (cut_reps rx lo hi) k3 q3 hT⟩)
  · rename_i ds hd
    have ed : d = .lsk ds := by
      cases d with
      | ref q =>
        simp only [resD] at hd
        split at hd <;> cases hd
      | _ => exact hd
    subst ed
    obtain ⟨P, xs, rfl, hq, rx⟩ := r3
    exact .inr (.inl ⟨P, xs, rfl, a3.fz.seq hq, fun T hT => lst_new a3 (cut_reps rx lo hi) k3 q3 hT⟩)
  · rename_i x hd
    rw [hd] at rr
    exact .inr (.inr ⟨x, rr.1, rr.2.1, k3 F3 H3 M3 (.str _) _ (Same.refl _) a3 ⟨rfl, sok_cut rr.2 lo hi⟩ q3⟩)
  · exact q3.elim
end
end L3
set_option Elab.async false
set_option linter.all false
set_option maxRecDepth 100000
set_option maxHeartbeats 1000000
namespace L3
open PySem PySem.Spec PyProof.Rows L2
section
variable {X : Cx} {a b o i : Expr} {e : Expr} {es : List Expr} {te ta tb to ti : DE} {t : DA} {pos p apos tpos : Pos}
def mLst (M : Mp) (d : D) (k : Addr → List D → Prop) : Prop := match d with
  | .ref q => match M q with
    | some (.lst ds) => k q ds
    | _ => False
  | _ => False
theorem mLst_at {K : PySem.W.Frag} {R F : Hp} {M : Mp} {H : Hp} {d : D} {v : V} {k : Addr → List D → Prop} (a : At K R F M H) (r : Rep K F d v) (h : mLst M d k) : ∃ q ds xs, v = .ref q ∧ M q = some (.lst ds) ∧ H q = some (.lst xs) ∧ Reps K F ds xs ∧ k q ds := by
  unfold mLst at h
  split at h
  · rename_i q
    split at h
    · rename_i ds hm
      obtain ⟨_, u, hu, xs, rfl, rx⟩ := a.mu _ _ hm
      exact ⟨q, ds, xs, r, hm, hu, rx, h⟩
    · exact h.elim
  · exact h.elim
/-- o[i] = e of an own list, of an own dict -/
def mIx (M : Mp) (o i v : D) (k : Mp → Prop) : Prop := match o with
  | .ref q => match M q with
    | some (.lst ds) => match i with
      | .int j => match ixN ds.length j with
        | some n => k (mupd M q (.lst (ds.set n v)))
        | none => False
      | _ => False
    | some (.dct ks ds) => match keyD i with
      | some j => ks.length < sizeLine ∧ k (mupd M q (.dct (addK ks j) (setK ks ds j v)))
      | none => False
    | _ => False
  | _ => False
def dSetIx (te to ti : DE) : DS := fun D env M => te env M fun v M1 => to env M1 fun o M2 => ti env M2 fun i M3 => mIx M3 o i v fun M4 => D.nx env M4
theorem PSet.or {t u : TSet} (h : PSet X t) (g : PSet X u) : PSet X (fun o i v H Q => t o i v H Q ∨ u o i v H Q) := by
  intro pins s σ H o i v ov iv w Q I ro ri rv q
  rcases q with q | q
  · exact h pins s σ H o i v ov iv w Q I ro ri rv q
  · exact g pins s σ H o i v ov iv w Q I ro ri rv q
def rSetT : V → V → V → Hp → (Hp → Prop) → Prop := fun o i v H Q => ∃ a H', o = .ref a ∧ DPut H a i v H' ∧ Q H'
theorem set_dT (hu : X.A.units + 1 < cLine) : PSet X rSetT := by
  intro pins s σ H o i v ov iv u Q I ro ri rv ⟨a, H', e, g, q⟩
  subst e
  obtain rfl : ov = Value.ref a := ro
  exact d_setItem hu I g ri rv fun s' I' => ⟨H', I', q⟩
theorem mIx_ok {K : PySem.W.Frag} {R F : Hp} {M : Mp} {H : Hp} {o i d : D} {x y v : V} {k : Mp → Prop} {Q : Hp → Prop} (a : At K R F M H) (ro : Rep K F o x) (ri : Rep K F i y) (rv : Rep K F d v) (h : mIx M o i d k)
    (hk : ∀ M' H', At K R F M' H' → k M' → Q H') : rSetL x y v H Q ∨ rSetT x y v H Q := by
  unfold mIx at h
  split at h
  · rename_i q
    cases (show x = V.ref q from ro)
    split at h
    · rename_i ds hm
      obtain ⟨_, u, hu, xs, rfl, rx⟩ := a.mu _ _ hm
      split at h
      · rename_i j
        split at h
        · rename_i n hn
          exact .inl ⟨q, xs, j, n, rfl, ri, hu, by rw [← rx.length]; exact hn, hk _ _ (a.wrote hm (o := .lst (ds.set n d)) ⟨_, rfl, rx.set n rv⟩) h⟩
        · exact h.elim
      · exact h.elim
    · rename_i ks ds hm
      obtain ⟨_, u, hu, xs, rfl, l, rx⟩ := a.mu _ _ hm
      split at h
      · rename_i j hj
        obtain ⟨ys, e1, e2⟩ := setK_zip (j := j) l.1 rx rv
        refine .inr ⟨q, _, rfl, .inl ⟨_, j, hu, keyD_ok ri hj, ?_, rfl⟩, hk _ _ (a.wrote hm (o := .dct (addK ks j) (setK ks ds j d)) ⟨ys, by rw [e1], l.set (keyD_sok ri hj), e2⟩) h.2⟩
        rw [List.length_zip, ← rx.length, ← l.1, Nat.min_self]
        exact h.1
      · exact h.elim
    · exact h.elim
  · exact h.elim
theorem pds_setIx {kk : Nat} (hr : Room kk X.A) (he : PDE X e te) (ho : PDE X o to) (hi : PDE X i ti)
    (ha : ∀ v, assign (.Subscript o i tpos) X.env v = (do
      let ov ← holding [v] (eval o X.env)
      let iv ← holding [v, ov] (eval i X.env)
      standAt tpos
      holding [v, ov, iv] (setItem ov iv v)
      release [v, ov, iv] []) := by intro _; rfl)
    (hs : swapsWithSole [.Subscript o i tpos] e pos.line X.env = pure false := by rfl) (hw : swappedStores [.Subscript o i tpos] e X.env = pure none := by rfl)
    (h1 : (assignEach [.Subscript o i tpos] X.env).map (·.2) = [assign (.Subscript o i tpos) X.env] := by rfl) : PDS X (.Assign [.Subscript o i tpos] e pos) (dSetIx te to ti) :=
  ps_imp (ps_asg he (pg_sub ho hi (PSet.or set_list (set_dT (by have := hr.un; omega))) ha) hs hw h1) fun D σ H ⟨R, F, env, M, Dd, a, e, h, k⟩ => ⟨R, F, env, M, _, a, e, h, fun F1 H1 M1 d v s1 a1 r1 q1 =>
    ⟨R, F1, env, M1, _, a1, e.mono s1, q1, fun F2 H2 M2 d2 v2 s2 a2 r2 q2 => ⟨R, F2, env, M2, _, a2, (e.mono s1).mono s2, q2, fun F3 H3 M3 d3 v3 s3 a3 r3 q3 =>
      mIx_ok a3 (r2.mono s3) r3 (r1.mono (s2.trans s3)) q3 fun M' H' a' q' => k.nx F3 _ _ env σ ((s1.trans s2).trans s3) a' (((e.mono s1).mono s2).mono s3) q'⟩⟩⟩
/-- methods of own lists -/
def dAppend (to te : DE) : DE := fun env M Q => to env M fun o M1 => (mLst M1 o fun _ _ => True) ∧ te env M1 fun d M2 => mLst M2 o fun q ds => ds.length < sizeLine ∧ Q .non (mupd M2 q (.lst (ds ++ [d])))
theorem mLst_ty {K : PySem.W.Frag} {R F : Hp} {M : Mp} {H : Hp} {d : D} {v : V} {k : Addr → List D → Prop} (a : At K R F M H) (r : Rep K F d v) (h : mLst M d k) : tyV K "list" v H := by
  obtain ⟨q, ds, xs, rfl, hm, hh, rx, _⟩ := mLst_at a r h
  exact .inl ⟨rfl, xs, SqL.of hh⟩
theorem pd_append (ho : PDE X o to) (he : PDE X e te) (hbase : attributeBase o "append" X.env (eval o X.env) = eval o X.env := by rfl)
    (hfew : ((backTo pos (starEach [e] X.env)).all (fun x => !x.1) && (backToKw pos (keywordEach [] X.env)).all (fun x => x.1.isSome)
      && decide ([e].length + ([] : List Keyword).length + (if ([] : List Keyword).isEmpty then 0 else 1) < 30)) = true := by rfl)
    (hline : (apos.endLine == pos.line) = true := by rfl) (hs : starEach [e] X.env = (false, eval e X.env) :: starEach [] X.env := by rfl) (hplain : (backTo pos (starEach [] X.env)).any (·.1) = false := by rfl) :
    PDE X (.Call (.Attribute o "append" apos) [e] [] pos) (dAppend to te) :=
  pe_imp (pe_bm PySem.F.plainAttrs_list PySem.F.slot_list_append PySem.F.type_list_append mt_append ho (pa_cons he pa_nil hs) hbase hfew hline hs hplain) fun σ H Q ⟨R, F, env, M, Qd, a, e, h, k⟩ =>
    ⟨R, F, env, M, _, a, e, h, fun F1 H1 M1 d v s1 a1 r1 q1 => ⟨mLst_ty a1 r1 q1.1, R, F1, env, M1, _, a1, e.mono s1, q1.2, fun F2 H2 M2 d2 v2 s2 a2 r2 q2 => by
      obtain ⟨q, ds, xs, rfl, hm, hh, rx, hz, q2⟩ := mLst_at a2 (r1.mono s2) q2
      exact ⟨q, xs, v2, rfl, rfl, hh, by rw [← rx.length]; exact hz, k F2 _ _ .non .non (s1.trans s2) (a2.wrote hm (o := .lst (ds ++ [d2])) ⟨_, rfl, rx.append (Reps.one r2)⟩) rfl q2⟩⟩⟩
abbrev R1D := D → Mp → DK → Prop
/-- a call of a built-in by its rule on data -/
def Serves1 (K : PySem.W.Frag) (r : R1D) (rV : List V → Hp → VK → Prop) : Prop := ∀ R F M H d x Qd Q, At K R F M H → Rep K F d x → r d M Qd → KD K R F Qd Q → rV [x] H Q
structure CallD (X : Cx) (f : Value) (r : R1D) : Prop where
  ex : ∃ rV, CallR X f rV ∧ Serves1 X.K r rV
theorem up_call1 {K : PySem.W.Frag} {r : R1D} {rV : List V → Hp → VK → Prop} (hs : Serves1 K r rV) : ∀ σ H Q, up K (dUn r ta) σ H Q → tCB rV (tCons (up K ta) tNil) σ H Q := fun σ H Q ⟨R, F, env, M, Qd, a, e, h, k⟩ =>
  ⟨R, F, env, M, _, a, e, h, fun F1 H1 M1 d v s1 a1 r1 h1 => hs R F1 M1 H1 d v Qd Q a1 r1 h1 (k.mono s1)⟩
theorem pd_bltn {x : Str} {f : String} {r : R1D} (hc : CallD X (.builtin f) r) (hm : X.mg x = none) (ha : PDE X a ta) (hv : bootBuiltins x = some (.builtin f) := by decide +kernel) (hg : Gl X x := by rfl) (hn : x ≠ "__name__" := by decide) (hdb : (x == ("__debug__" : Str)) = false := by decide)
    (he : starEach [a] X.env = (false, eval a X.env) :: starEach [] X.env := by rfl) (hpl : (backTo pos (starEach [] X.env)).any (·.1) = false := by rfl) : PDE X (.Call (.Name x p) [a] [] pos) (dUn r ta) := by
  obtain ⟨rV, h1, h2⟩ := hc.ex
  exact pe_imp (pe_callB h1 hg hm hv (pa_cons ha pa_nil he) hn hdb he hpl) (up_call1 h2)
theorem pd_type {x : Str} {f : String} {r : R1D} (hc : CallD X (.type f) r) (hm : X.mg x = none) (ha : PDE X a ta) (hv : bootBuiltins x = some (.type f) := by decide +kernel) (hg : Gl X x := by rfl) (hn : x ≠ "__name__" := by decide) (hdb : (x == ("__debug__" : Str)) = false := by decide)
    (he : starEach [a] X.env = (false, eval a X.env) :: starEach [] X.env := by rfl) (hpl : (backTo pos (starEach [] X.env)).any (·.1) = false := by rfl) : PDE X (.Call (.Name x p) [a] [] pos) (dUn r ta) := by
  obtain ⟨rV, h1, h2⟩ := hc.ex
  exact pe_imp (pe_callTy h1 hg hm hv (pa_cons ha pa_nil he) hn hdb he hpl) (up_call1 h2)
def rLenD : R1D := fun d M Q => match resD M d with
  | .tup ds => Q (.int ds.length) M
  | .lst ds => Q (.int ds.length) M
  | .str x => Q (.int x.length) M
  | _ => match resK M d with
    | some (ks, _) => Q (.int ks.length) M
    | none => False
/-- a sequence as it stands -/
theorem seq_at {K : PySem.W.Frag} {R F : Hp} {M : Mp} {H : Hp} {d : D} {v : V} (a : At K R F M H) (r : Rep K F d v) :
    (∀ {ds : List D}, resD M d = .lst ds → ∃ P xs, v = .ref P ∧ H P = some (.lst xs) ∧ Reps K F ds xs) ∧ (∀ {ds : List D}, resD M d = .tup ds → ∃ P xs, v = .ref P ∧ SqT K F P xs ∧ Reps K F ds xs) := by
  cases d with
  | ref q =>
    refine ⟨fun h => ?_, fun h => ?_⟩
    · simp only [resD] at h
      split at h
      · rename_i es hm
        cases h
        obtain ⟨_, u, hu, xs, rfl, rx⟩ := a.mu _ _ hm
        exact ⟨q, xs, r, hu, rx⟩
      · cases h
    · simp only [resD] at h
      split at h <;> cases h
  | lst es =>
    refine ⟨fun h => ?_, fun h => ?_⟩
    · cases h
      obtain ⟨P, xs, rfl, hq, rx⟩ := r
      exact ⟨P, xs, rfl, a.fz _ _ hq, rx⟩
    · cases h
  | tup es =>
    refine ⟨fun h => ?_, fun h => ?_⟩
    · cases h
    · cases h
      exact r
  | _ => refine ⟨fun h => ?_, fun h => ?_⟩ <;> cases h
/-- len of a dict, locked or not -/
theorem call_lenR : CallR X (.builtin "len") (fun xs H Q => ∃ a kvs, xs = [V.ref a] ∧ Rd H a (.dK kvs) ∧ Q (.int kvs.length) H) := by
  intro pins s σ H xs us Q I r ⟨a, kvs, e, ha, q⟩
  subst e
  rw [Vals.ref1 r]
  exact d_len I ha fun t s' I' => ⟨.int kvs.length, H, I', ⟨t, rfl⟩, q⟩
theorem calld_len : CallD X (.builtin "len") rLenD := ⟨_, (call_len_seq.or call_len_str).or call_lenR, fun R F M H d x Qd Q a r q kd => by
  unfold rLenD at q
  split at q
  · rename_i ds hd
    obtain ⟨P, xs, rfl, hq, rx⟩ := (seq_at a r).2 hd
    exact .inl (.inl ⟨P, xs, rfl, .inr (Same.seqT a.fz hq), kd F H M (.int _) _ (Same.refl _) a (by rw [rx.length]; rfl) q⟩)
  · rename_i ds hd
    obtain ⟨P, xs, rfl, hq, rx⟩ := (seq_at a r).1 hd
    exact .inl (.inl ⟨P, xs, rfl, .inl (SqL.of hq), kd F H M (.int _) _ (Same.refl _) a (by rw [rx.length]; rfl) q⟩)
  · rename_i z hd
    have rz := res_rep a r
    rw [hd] at rz
    exact .inl (.inr ⟨z, by rw [rz.1], rz.2.1, kd F H M (.int _) _ (Same.refl _) a rfl q⟩)
  · split at q
    · rename_i ks ds hk
      obtain ⟨P, xs, rfl, hq, l, rx⟩ := resK_at a r hk
      exact .inr ⟨P, _, rfl, hq, kd F H M (.int _) _ (Same.refl _) a (by rw [List.length_zip, ← rx.length, ← l.1, Nat.min_self]; rfl) q⟩
    · exact q.elim⟩
def asBls : List D → Option (List Bool)
  | [] => some []
  | .bl b :: r => (asBls r).map (b :: ·)
  | _ => none
theorem asBls_map : ∀ bs : List Bool, asBls (bs.map D.bl) = some bs
  | [] => rfl
  | b :: bs => by simp [asBls, asBls_map bs]
theorem asBls_ok : ∀ {ds : List D} {bs : List Bool}, asBls ds = some bs → ds = bs.map D.bl
  | [], bs, h => by cases h; rfl
  | d :: r, bs, h => by
    cases d with
    | bl b =>
      simp only [asBls, Option.map_eq_some_iff] at h
      obtain ⟨cs, h1, rfl⟩ := h
      rw [asBls_ok h1]; rfl
    | _ => simp [asBls] at h
def rAllD : R1D := fun d M Q => match resD M d with
  | .lst ds => match asBls ds with
    | some bs => Q (.bl (bs.all id)) M
    | none => False
  | _ => False
theorem calld_all (hc : X.calm = true := by rfl) : CallD X (.builtin "all") rAllD := ⟨_, cr_all hc, fun R F M H d x Qd Q a r q kd => by
  unfold rAllD at q
  split at q
  · rename_i ds hd
    split at q
    · rename_i bs hb
      obtain ⟨P, xs, rfl, hq, rx⟩ := (seq_at a r).1 hd
      rw [asBls_ok hb] at rx
      have := rx.bls
      subst this
      exact ⟨P, bs, rfl, SqL.of hq, kd F H M (.bl _) _ (Same.refl _) a rfl q⟩
    · exact q.elim
  · exact q.elim⟩
/-- list(xs), a frozen one -/
def rListD : R1D := fun d M Q => match resD M d with
  | .lst ds => Q (.lst ds) M
  | .tup ds => Q (.lst ds) M
  | _ => False
theorem calld_list : CallD X (.type "list") rListD := ⟨_, call_list_of, fun R F M H d x Qd Q a r q kd => by
  unfold rListD at q
  split at q
  · rename_i ds hd
    obtain ⟨P, xs, rfl, hq, rx⟩ := (seq_at a r).1 hd
    exact ⟨P, xs, rfl, .inl (SqL.of hq), fun l hl => lst_new a rx kd q hl⟩
  · rename_i ds hd
    obtain ⟨P, xs, rfl, hq, rx⟩ := (seq_at a r).2 hd
    exact ⟨P, xs, rfl, .inr (Same.seqT a.fz hq), fun l hl => lst_new a rx kd q hl⟩
  · exact q.elim⟩
def rTupleD : R1D := fun d M Q => match resD M d with
  | .lst ds => Q (.tup ds) M
  | .tup ds => Q (.tup ds) M
  | _ => False
theorem calld_tuple : CallD X (.type "tuple") rTupleD := ⟨_, call_tuple_of, fun R F M H d x Qd Q a r q kd => by
  unfold rTupleD at q
  split at q
  · rename_i ds hd
    obtain ⟨P, xs, rfl, hq, rx⟩ := (seq_at a r).1 hd
    exact ⟨P, xs, rfl, .inl ⟨SqL.of hq, fun l hl => tup_new a rx kd q hl⟩⟩
  · rename_i ds hd
    obtain ⟨P, xs, rfl, hq, rx⟩ := (seq_at a r).2 hd
    exact ⟨P, xs, rfl, .inr ⟨Same.seqT a.fz hq, kd F H M (.tup ds) _ (Same.refl _) a ⟨P, xs, rfl, hq, rx⟩ q⟩⟩
  · exact q.elim⟩
def asStrs : List D → Option (List Str)
  | [] => some []
  | .str b :: r => (asStrs r).map (b :: ·)
  | _ => none
theorem asStrs_map : ∀ bs : List Str, asStrs (bs.map D.str) = some bs
  | [] => rfl
  | b :: bs => by simp [asStrs, asStrs_map bs]
theorem asStrs_ok : ∀ {ds : List D} {bs : List Str}, asStrs ds = some bs → ds = bs.map D.str
  | [], bs, h => by cases h; rfl
  | d :: r, bs, h => by
    cases d with
    | str b =>
      simp only [asStrs, Option.map_eq_some_iff] at h
      obtain ⟨cs, h1, rfl⟩ := h
      rw [asStrs_ok h1]; rfl
    | _ => simp [asStrs] at h
theorem joinL_mem {S : List Nat} {c : Nat} : ∀ {ps : List (List Nat)}, c ∈ TL.joinL S ps → c ∈ S ∨ ∃ p ∈ ps, c ∈ p
  | [], h => by cases h
  | [p], h => .inr ⟨p, by simp, h⟩
  | p :: q :: r, h => by
    rcases List.mem_append.mp (show c ∈ p ++ (S ++ TL.joinL S (q :: r)) from h) with h | h
    · exact .inr ⟨p, by simp, h⟩
    · rcases List.mem_append.mp h with h | h
      · exact .inl h
      · rcases joinL_mem h with h | ⟨z, hz, h⟩
        · exact .inl h
        · exact .inr ⟨z, List.mem_cons_of_mem _ hz, h⟩
theorem joinL_len {S : List Nat} : ∀ (ps : List (List Nat)), (TL.joinL S ps).length ≤ (ps.map List.length).sum + ps.length * S.length
  | [] => by simp [TL.joinL]
  | [p] => by simp [TL.joinL]
  | p :: q :: r => by
    have ih := joinL_len (S := S) (q :: r)
    show (p ++ (S ++ TL.joinL S (q :: r))).length ≤ _
    have e : ((p :: q :: r).length) * S.length = (q :: r).length * S.length + S.length := by rw [List.length_cons, Nat.succ_mul]
    rw [e, List.map_cons, List.sum_cons, List.length_append, List.length_append]
    omega
theorem join_ok {a : Str} {ys : List Str} (ha : SOk a) (hy : ∀ y ∈ ys, SOk y) (hz : (ys.map (·.length)).sum + ys.length * a.length ≤ 16777216) : SOk (Txt.join a ys) := by
  have e : (Txt.join a ys).cps.toList = TL.joinL a.cps.toList (ys.map fun y => y.cps.toList) := by
    rw [TL.join_eq]; exact TL.tl_join a ys
  refine ⟨?_, fun c hc => ?_⟩
  · show (Txt.join a ys).cps.size ≤ _
    rw [← Array.length_toList, e, sizeLine_eq]
    refine Nat.le_trans (joinL_len _) ?_
    rw [List.map_map, List.length_map, Array.length_toList]
    exact hz
  · rw [e] at hc
    rcases joinL_mem hc with h | ⟨z, hz, h⟩
    · exact ha.2 c h
    · obtain ⟨y, hy', rfl⟩ := List.mem_map.mp hz
      exact (hy y hy').2 c h
theorem strs_ok {K : PySem.W.Frag} {F : Hp} : ∀ {ys : List Str} {vs : List V}, Reps K F (ys.map D.str) vs → ∀ y ∈ ys, SOk y
  | [], _, _, _, h => by cases h
  | z :: ys, _, ⟨x, r, e, h1, h2⟩, y, h => by
    rcases List.mem_cons.mp h with rfl | h
    · exact h1.2
    · exact strs_ok h2 y h
def dJoin (to te : DE) : DE := fun env M Q => to env M fun o M1 => match o with
  | .str a => te env M1 fun d M2 => match resD M2 d with
    | .lst ds => match asStrs ds with
      | some ys => (ys.map (·.length)).sum + ys.length * a.length ≤ 16777216 ∧ Q (.str (Txt.join a ys)) M2
      | none => False
    | _ => False
  | _ => False
theorem pd_join (ho : PDE X o to) (he : PDE X e te) (hs : starEach [e] X.env = [(false, eval e X.env)] := by rfl) (hbase : attributeBase o "join" X.env (eval o X.env) = eval o X.env := by rfl) (hline : (apos.endLine == pos.line) = true := by rfl) :
    PDE X (.Call (.Attribute o "join" apos) [e] [] pos) (dJoin to te) := by
  refine pe_imp (pe_join ho he hs hbase hline) fun σ H Q ⟨R, F, env, M, Qd, a, e, h, k⟩ => ⟨R, F, env, M, _, a, e, h, fun F1 H1 M1 d v s1 a1 r1 q1 => ?_⟩
  cases d with
  | str x =>
    obtain ⟨rfl, hx⟩ := r1
    refine ⟨⟨x, rfl⟩, R, F1, env, M1, _, a1, e.mono s1, q1, fun F2 H2 M2 d2 v2 s2 a2 r2 q2 => ?_⟩
    split at q2
    · rename_i ds hd
      split at q2
      · rename_i ys hy
        obtain ⟨P, xs, rfl, hq, rx⟩ := (seq_at a2 r2).1 hd
        have e1 := asStrs_ok hy
        subst e1
        have e2 := rx.strs
        subst e2
        exact ⟨x, P, ys, rfl, rfl, .inl (SqL.of hq), q2.1, k F2 H2 M2 (.str _) _ (s1.trans s2) a2 ⟨rfl, join_ok hx (strs_ok rx) q2.1⟩ q2.2⟩
      · exact q2.elim
    · exact q2.elim
  | _ => exact q1.elim
def tyD (M : Mp) (d : D) : Option String := match resD M d with
  | .non => some "NoneType"
  | .bl _ => some "bool"
  | .int _ => some "int"
  | .str _ => some "str"
  | .tup _ => some "tuple"
  | .lst _ => some "list"
  | _ => none
theorem sqt_ty {K : PySem.W.Frag} {H : Hp} {p : Addr} {xs : List V} (h : SqT K H p xs) : TyX K H (.ref p) (.type "tuple") := by
  rcases h with (h | ⟨o, h⟩) | ⟨o, its, n, hk, hc, _⟩
  · exact .base (.tup h)
  · exact .fTuple h
  · exact .kTuple hk hc
theorem tyD_ok {K : PySem.W.Frag} {R F : Hp} {M : Mp} {H : Hp} {d : D} {v : V} {T : String} (a : At K R F M H) (r : Rep K F d v) (h : tyD M d = some T) : TyX K H v (.type T) := by
  unfold tyD at h
  have rr := res_rep a r
  split at h <;> rename_i hd
  · rw [hd] at rr; cases h; cases (show v = .non from rr); exact .base .non
  · rw [hd] at rr; cases h; cases (show v = .bl _ from rr); exact .base (.bl _)
  · rw [hd] at rr; cases h; cases (show v = .int _ from rr); exact .base (.int _)
  · rw [hd] at rr; cases h; obtain ⟨rr, _⟩ := rr; cases rr; exact .base (.str _)
  · rw [hd] at rr; cases h; obtain ⟨p, xs, rfl, hq, _⟩ := rr; exact sqt_ty hq
  · rw [hd] at rr; cases h; obtain ⟨p, xs, rfl, hq, _⟩ := rr; exact .base (.lst hq)
  · cases h
inductive Ty where
  | list | tuple | bool | int | str
def Ty.name : Ty → String
  | .list => "list" | .tuple => "tuple" | .bool => "bool" | .int => "int" | .str => "str"
def isIn : Ty → D → Option Bool
  | .list, .lst _ => some true
  | .tuple, .tup _ => some true
  | .bool, .bl _ => some true
  | .int, .int _ => some true
  | .int, .bl _ => some true
  | .str, .str _ => some true
  | _, .non => some false
  | _, .bl _ => some false
  | _, .int _ => some false
  | _, .str _ => some false
  | _, .tup _ => some false
  | _, .lst _ => some false
  | _, _ => none
theorem isIn_ok {M : Mp} {d : D} {T : Ty} {b : Bool} (h : isIn T (resD M d) = some b) : ∃ t, tyD M d = some t ∧ kitB t T.name = some b := by
  unfold tyD
  generalize resD M d = x at h ⊢
  cases T <;> cases x <;> first
    | (cases h; exact ⟨_, rfl, by decide +kernel⟩)
    | cases h
/-- isinstance(e, T), T a built-in class -/
def dIsi (T : Ty) (te : DE) : DE := fun env M Q => te env M fun d M1 => match isIn T (resD M1 d) with
  | some b => Q (.bl b) M1
  | none => False
theorem pd_isi {T : Str} (t : Ty) {p2 : Pos} (hm : X.mg "isinstance" = none) (he : PDE X e te) (hT : X.mg T = none) (hv : bootBuiltins T = some (.type t.name) := by decide +kernel) (hg : Gl X "isinstance" := by rfl) (hgT : Gl X T := by rfl)
    (hn : T ≠ "__name__" := by decide) (hd : (T == ("__debug__" : Str)) = false := by decide)
    (hs : starEach [e, .Name T p2] X.env = (false, eval e X.env) :: starEach [.Name T p2] X.env := by rfl) (hs2 : starEach [.Name T p2] X.env = (false, eval (.Name T p2) X.env) :: starEach [] X.env := by rfl) (hpl : (backTo pos (starEach [.Name T p2] X.env)).any (·.1) = false := by rfl) :
    PDE X (.Call (.Name "isinstance" p) [e, .Name T p2] [] pos) (dIsi t te) :=
  pe_imp (pe_callB call_isi hg hm (by decide +kernel) (pa_cons he (pa_cons (pe_bltn (v := .ty t.name) hgT hT hv rfl hn hd) pa_nil hs2) hs) (by decide) (by decide) hs hpl) fun σ H Q ⟨R, F, env, M, Qd, a, e, h, k⟩ =>
    ⟨R, F, env, M, _, a, e, h, fun F1 H1 M1 d v s1 a1 r1 q1 => by
      split at q1
      · rename_i b hb
        obtain ⟨tt, ht, hb⟩ := isIn_ok hb
        exact ⟨v, .ty t.name, .type tt, .type t.name, b, rfl, .ty _, tyD_ok a1 r1 ht, kit_ty hb, k F1 H1 M1 (.bl b) _ s1 a1 rfl q1⟩
      · exact q1.elim⟩
/-- isinstance(e, (T, U)) -/
def dIsi2 (T U : Ty) (te : DE) : DE := fun env M Q => te env M fun d M1 => match isIn T (resD M1 d), isIn U (resD M1 d) with
  | some b, some c => Q (.bl (b || c)) M1
  | _, _ => False
theorem pd_isi2 {T U : Str} (t u : Ty) {p2 p3 p4 : Pos} {kk : Nat} (hm : X.mg "isinstance" = none) (he : PDE X e te) (hT : X.mg T = none) (hU : X.mg U = none) (hv : bootBuiltins T = some (.type t.name) := by decide +kernel) (hv2 : bootBuiltins U = some (.type u.name) := by decide +kernel)
    (hg : Gl X "isinstance" := by rfl) (hgT : Gl X T := by rfl) (hgU : Gl X U := by rfl) (hn : T ≠ "__name__" := by decide) (hd : (T == ("__debug__" : Str)) = false := by decide) (hn2 : U ≠ "__name__" := by decide) (hd2 : (U == ("__debug__" : Str)) = false := by decide)
    (hs0 : starEach [.Name T p2, .Name U p3] X.env = (false, eval (.Name T p2) X.env) :: starEach [.Name U p3] X.env := by rfl) (hs1 : starEach [.Name U p3] X.env = (false, eval (.Name U p3) X.env) :: starEach [] X.env := by rfl)
    (hs : starEach [e, .Tuple [.Name T p2, .Name U p3] kk p4] X.env = (false, eval e X.env) :: starEach [.Tuple [.Name T p2, .Name U p3] kk p4] X.env := by rfl)
    (hs2 : starEach [.Tuple [.Name T p2, .Name U p3] kk p4] X.env = (false, eval (.Tuple [.Name T p2, .Name U p3] kk p4) X.env) :: starEach [] X.env := by rfl) (hpl : (backTo pos (starEach [.Tuple [.Name T p2, .Name U p3] kk p4] X.env)).any (·.1) = false := by rfl) :
    PDE X (.Call (.Name "isinstance" p) [e, .Tuple [.Name T p2, .Name U p3] kk p4] [] pos) (dIsi2 t u te) :=
  pe_imp (pe_callB call_isiT hg hm (by decide +kernel) (pa_cons he (pa_cons (pe_tup (pa_cons (pe_bltn (v := .ty t.name) hgT hT hv rfl hn hd) (pa_cons (pe_bltn (v := .ty u.name) hgU hU hv2 rfl hn2 hd2) pa_nil hs1) hs0)) pa_nil hs2) hs) (by decide) (by decide) hs hpl) fun σ H Q ⟨R, F, env, M, Qd, a, e, h, k⟩ =>
    ⟨R, F, env, M, _, a, e, h, fun F1 H1 M1 d v s1 a1 r1 q1 => ⟨by show 2 ≤ sizeLine; decide, fun P hP => by
      obtain ⟨a2, s2⟩ := a1.laid hP (.tup [.ty t.name, .ty u.name])
      split at q1
      · rename_i b c hb hc
        obtain ⟨tt, ht, hb⟩ := isIn_ok hb
        obtain ⟨tt2, ht2, hc⟩ := isIn_ok hc
        rw [ht] at ht2; cases ht2
        refine ⟨v, P, _, .type tt, [.type t.name, .type u.name], b || c, rfl, upd_same, .cons (.ty _) (.cons (.ty _) .nil), tyD_ok a2 (r1.mono s2) ht, kitAny_cons (kit_ty hb) (fun e => ?_) (fun e => by rw [e]; rfl), k _ _ M1 (.bl _) _ (s1.trans s2) a2 rfl q1⟩
        subst e
        exact kitAny_cons (kit_ty hc) (fun e => by rw [e]; exact kitAny_nil) (fun e => by rw [e]; rfl)
      · exact q1.elim⟩⟩
end
end L3
set_option Elab.async false
set_option linter.all false
set_option maxRecDepth 100000
set_option maxHeartbeats 1000000
namespace L3
open PySem PySem.Spec PyProof.Rows L2
section
variable {X : Cx} {a b o i kx vx : Expr} {e : Expr} {es : List Expr} {te ta tb to ti tk tv : DE} {t : DA} {pos p apos tpos : Pos}
def leD (d e : D) : Bool := PySem.W.dataLe false D.py d e
def sortD (ds : List D) : List D := ds.mergeSort leD
/-- what may be sorted -/
def SrtOk (ds : List D) : Prop := PySem.W.AllAlike (ds.map D.py) ∧ PySem.W.Sortable (ds.map D.py)
def rSortV (K : PySem.W.Frag) : List V → Hp → VK → Prop := fun vs H Q => ∃ a xs F ds, vs = [.ref a] ∧ SqL K H a xs ∧ Same F H ∧ Reps K F ds xs ∧ D.les 50 ds = true ∧ SrtOk ds ∧ ∀ ys p, Reps K F (sortD ds) ys → H p = none → Q (.ref p) (upd H p (.lst ys))
theorem each_rep {K : PySem.W.Frag} {F : Hp} : ∀ {ds : List D} {xs : List V} {us : List Value}, Reps K F ds xs → Vals xs us → PySem.W.EachIs (fun u d => ∃ x, RelV x u ∧ Rep K F d x) us ds
  | [], _, _, h, r => by cases h; cases r; exact .nil
  | d :: ds, _, us, ⟨x, rr, e, h1, h2⟩, r => by
    subst e
    cases r with
    | cons r1 r2 => exact .cons ⟨x, r1, h1⟩ (each_rep h2 r2)
theorem rep_each {K : PySem.W.Frag} {F : Hp} : ∀ {ds : List D} {us : List Value}, PySem.W.EachIs (fun u d => ∃ x, RelV x u ∧ Rep K F d x) us ds → ∃ xs, Vals xs us ∧ Reps K F ds xs
  | _, _, .nil => ⟨[], .nil, rfl⟩
  | _, _, .cons ⟨x, r, h⟩ t => by
    obtain ⟨xs, r2, h2⟩ := rep_each t
    exact ⟨x :: xs, .cons r r2, x, xs, rfl, h, h2⟩
theorem each_reads {pins : List (Addr × Obj)} {σ : L2.St} {H : Hp} {s : Shared} {F : Hp} (I : Inv X pins σ H s) (sm : Same F H) : ∀ {ds : List D} {xs : List V} {us : List Value}, Reps X.K F ds xs → Vals xs us → D.les 50 ds = true → PySem.W.EachIs (fun u d => ∃ as, Reads s.heap u d.py as) us ds
  | [], _, _, h, r, _ => by cases h; cases r; exact .nil
  | d :: ds, _, us, ⟨x, rr, e, h1, h2⟩, r, l => by
    subst e
    simp only [D.les, Bool.and_eq_true] at l
    cases r with
    | cons r1 r2 => exact .cons (Dp.reads I d.py x _ (dp_mono sm (py_dp h1 l.1).1) r1) (each_reads I sm h2 r2 l.2)
theorem les_each : ∀ {n : Nat} {ds : List D}, D.les n ds = true → ∀ d ∈ ds, D.le n d = true
  | n, d :: ds, h, g, hg => by
    simp only [D.les, Bool.and_eq_true] at h
    rcases List.mem_cons.mp hg with rfl | hg
    · exact h.1
    · exact les_each h.2 g hg
mutual
theorem py_depth : ∀ {n : Nat} {d : D}, D.le n d = true → d.py.depth ≤ n + 1
  | n, .non, _ => by simp [D.py, PyData.depth]
  | n, .bl b, _ => by simp [D.py, PyData.depth]
  | n, .int i, _ => by simp [D.py, PyData.depth]
  | n, .str x, _ => by simp [D.py, PyData.depth]
  | n + 1, .tup ds, h => by
    have := pys_depth (show D.les n ds = true by simpa [D.le] using h)
    simp only [D.py, PyData.depth]; omega
  | n + 1, .lst ds, h => by
    have := pys_depth (show D.les n ds = true by simpa [D.le] using h)
    simp only [D.py, PyData.depth]; omega
  | 0, .tup ds, h => by simp [D.le] at h
  | 0, .lst ds, h => by simp [D.le] at h
  | _, .ref _, h => by simp [D.le] at h
  | _, .ty _, h => by simp [D.le] at h
  | _, .lsk _, h => by simp [D.le] at h
  | _, .dct _ _, h => by simp [D.le] at h
  | _, .obj _ _, h => by simp [D.le] at h
  | _, .dkd _ _ _, h => by simp [D.le] at h
  | _, .exc _ _ _ _, h => by simp [D.le] at h
  | _, .fn _ _ _, h => by simp [D.le] at h
theorem pys_depth : ∀ {n : Nat} {ds : List D}, D.les n ds = true → PyData.depthAll (D.pys ds) ≤ n + 1
  | n, [], _ => by simp [D.pys, PyData.depthAll]
  | n, d :: ds, h => by
    have h' : D.le n d = true ∧ D.les n ds = true := by simpa [D.les] using h
    have h1 := py_depth h'.1
    have h2 := pys_depth h'.2
    simp only [D.pys, PyData.depthAll]; omega
end
theorem cr_sortedV (hu : X.A.units + 65 < cLine) : CallR X (.builtin "sorted") (rSortV X.K) := by
  intro pins s σ H vs us Q I r ⟨a, xs, F, ds, ev, hs, sm, rx, hl, ok, q⟩
  subst ev
  obtain ⟨its, rv, pl, hz⟩ := I.list hs
  rw [Vals.ref1 r]
  have hlen : its.length = ds.length := by rw [← rv.length, rx.length]
  refine PySem.W.sorted_data (vs := its) (bs := ds) (enc := D.py) (R := fun u d => ∃ x, RelV x u ∧ Rep X.K F d x) pl.isList (each_rep rx rv) (each_reads I sm rx rv hl) ok.1 ok.2 (by rw [rx.length]; exact hz) (fun b hb => ?_) fun out ho hout => ?_
  · have := py_depth (les_each hl b hb); omega
  · obtain ⟨ys, ry, rys⟩ := rep_each hout
    obtain ⟨ep, he'⟩ := PyProof.Rows.sortedAll_at s.heap its out.toArray
    have hy : ys.length ≤ sizeLine := by rw [ry.length, ho, rx.length]; exact hz
    exact ⟨.ref _, upd H (s.heap.objs.size + 1) (.lst ys), I.laid (t' := s.toks) (fun _ _ => PyProof.Rows.sortedAll_old) (Nat.le_succ _) ⟨hy, out, ep, ry, he'⟩, rfl, q ys _ rys (I.hok.fresh (Nat.le_succ _))⟩
def keyInts : List L2.Key → Option (List Int)
  | [] => some []
  | .inl i :: r => (keyInts r).map (i :: ·)
  | _ => none
theorem keyInts_ok : ∀ {ks : List L2.Key} {ns : List Int}, keyInts ks = some ns → ks = ns.map Sum.inl
  | [], _, h => by cases h; rfl
  | .inl i :: r, _, h => by
    simp only [keyInts, Option.map_eq_some_iff] at h
    obtain ⟨cs, h1, rfl⟩ := h
    rw [keyInts_ok h1]; rfl
  | .inr _ :: _, _, h => by cases h
/-- sorted(xs): a frozen list; of a dict its keys, numbers -/
def rSortG (mk : List D → Mp → DK → Prop) : R1D := fun d M Q => match resD M d with
  | .lst ds => (D.les 50 ds = true ∧ SrtOk ds) ∧ mk (sortD ds) M Q
  | _ => match resK M d with
    | some (ks, _) => match keyInts ks with
      | some ns => ns.length < 64 ∧ ∀ ys : List Int, ys.Perm ns → ys.Pairwise (· ≤ ·) → mk (ys.map D.int) M Q
      | none => False
    | none => False
def mkF : List D → Mp → DK → Prop := fun ds M Q => Q (.lst ds) M
abbrev rSortD : R1D := rSortG mkF
theorem zip_fst {α β : Type} : ∀ {xs : List α} {ys : List β}, xs.length = ys.length → (xs.zip ys).map (·.1) = xs
  | [], _, _ => by simp
  | _ :: _, [], h => by simp at h
  | x :: xs, y :: ys, h => by simp [zip_fst (xs := xs) (ys := ys) (by simpa using h)]
theorem calld_sortG {mk : List D → Mp → DK → Prop} (hmk : ∀ {K : PySem.W.Frag} {R F : Hp} {M : Mp} {H : Hp} {ds : List D} {vs : List V} {Qd : DK} {Q : VK} {p : Addr}, At K R F M H → Reps K F ds vs → KD K R F Qd Q → mk ds M Qd → H p = none → Q (.ref p) (upd H p (.lst vs)))
    {k : Nat} (hr : Room k X.A) (hc : X.calm = true) : CallD X (.builtin "sorted") (rSortG mk) := ⟨_, (cr_sortedV (by have := hr.un; omega)).or (call_sortedDI hc), fun R F M H d x Qd Q a r q kd => by
  unfold rSortG at q
  split at q
  · rename_i ds hd
    obtain ⟨P, xs, rfl, hq, rx⟩ := (seq_at a r).1 hd
    exact .inl ⟨P, xs, F, ds, rfl, SqL.of hq, a.fz, rx, q.1.1, q.1.2, fun ys p ry hp => hmk a ry kd q.2 hp⟩
  · split at q
    · rename_i ks ds hk
      split at q
      · rename_i ns hn
        obtain ⟨P, xs, rfl, hq, l, rx⟩ := resK_at a r hk
        refine .inr ⟨P, _, ns, rfl, hq, ?_, q.1, fun ys p h1 h2 hp => hmk a (Reps.ofInts ys) kd (q.2 ys h1 h2) hp⟩
        rw [zip_fst (l.1.trans rx.length), keyInts_ok hn]
      · exact q.elim
    · exact q.elim⟩
theorem calld_sort {k : Nat} (hr : Room k X.A) (hc : X.calm = true := by rfl) : CallD X (.builtin "sorted") rSortD := calld_sortG (fun a r k h hp => lst_new a r k h hp) hr hc
theorem dct_born {K : PySem.W.Frag} {R F : Hp} {M : Mp} {H : Hp} {ks : List L2.Key} {ds : List D} {vs : List V} {Qd : DK} {Q : VK} {p : Addr} (a : At K R F M H) (l : KsOk ks ds) (r : Reps K F ds vs) (k : KD K R F Qd Q) (h : ∀ p, M p = none → Qd (.ref p) (mupd M p (.dct ks ds))) (hp : H p = none) : Q (.ref p) (upd H p (.dK (ks.zip vs))) :=
  k F _ _ (.ref p) _ (Same.refl F) (a.born hp (o := .dct ks ds) ⟨vs, rfl, l, r⟩) rfl (h p (a.freeM hp))
/-- {} -/
def dDct0 : DE := fun _ M Q => ∀ p, M p = none → Q (.ref p) (mupd M p (.dct [] []))
theorem pd_dct0 : PDE X (.Dict [] [] pos) dDct0 := pe_imp pe_dnewK fun σ H Q ⟨R, F, env, M, Qd, a, e, h, k⟩ p hp => dct_born (ks := []) (ds := []) (vs := []) a ⟨rfl, fun _ h => nomatch h⟩ rfl k h hp
/-- {k: v, ..} -/
def dPairs : List (DE × DE) → DEnv → Mp → (List (D × D) → Mp → Prop) → Prop
  | [], _, M, Q => Q [] M
  | (tk, tv) :: r, env, M, Q => tk env M fun x M1 => tv env M1 fun y M2 => dPairs r env M2 fun ps M3 => Q ((x, y) :: ps) M3
def tabOf : List (D × D) → List L2.Key → List D → Option (List L2.Key × List D)
  | [], ks, ds => some (ks, ds)
  | (x, y) :: r, ks, ds => match keyD x with
    | some k => tabOf r (addK ks k) (setK ks ds k y)
    | none => none
def dDct (ps : List (DE × DE)) : DE := fun env M Q => dPairs ps env M fun qs M1 => match tabOf qs [] [] with
  | some (ks, ds) => ∀ p, M1 p = none → Q (.ref p) (mupd M1 p (.dct ks ds))
  | none => False
def upPs (K : PySem.W.Frag) (ps : List (DE × DE)) : List (TE × TE) := ps.map fun p => (up K p.1, up K p.2)
def RepPs (K : PySem.W.Frag) (F : Hp) : List (D × D) → List (V × V) → Prop
  | [], xs => xs = []
  | (d, g) :: ds, xs => ∃ x y r, xs = (x, y) :: r ∧ Rep K F d x ∧ Rep K F g y ∧ RepPs K F ds r
theorem pairs_up {K : PySem.W.Frag} : ∀ (ps : List (DE × DE)) {σ : L2.St} {H : Hp} {R F : Hp} {env : DEnv} {M : Mp} {Qd : List (D × D) → Mp → Prop} {Q : List (V × V) → Hp → Prop}, At K R F M H → EnvR K F σ env → dPairs ps env M Qd →
    (∀ F' H' M' ds vs, Same F F' → At K R F' M' H' → RepPs K F' ds vs → ds.length = ps.length → Qd ds M' → Q vs H') → tPairs (upPs K ps) σ H Q
  | [], _, H, R, F, _, M, _, _, a, _, h, k => k F H M [] [] (Same.refl F) a rfl rfl h
  | (tk, tv) :: r, σ, H, R, F, env, M, Qd, Q, a, e, h, k => ⟨R, F, env, M, _, a, e, h, fun F1 H1 M1 x v s1 a1 r1 q1 => ⟨R, F1, env, M1, _, a1, e.mono s1, q1, fun F2 H2 M2 y w s2 a2 r2 q2 =>
      pairs_up r a2 ((e.mono s1).mono s2) q2 fun F3 H3 M3 ds vs s3 a3 r3 l3 q3 => k F3 H3 M3 ((x, y) :: ds) ((v, w) :: vs) ((s1.trans s2).trans s3) a3 ⟨v, w, vs, rfl, (r1.mono s2).mono s3, r2.mono s3, r3⟩ (by simp [l3]) q3⟩⟩
theorem tab_ok {K : PySem.W.Frag} {F : Hp} : ∀ {qs : List (D × D)} {vs : List (V × V)} {ks ks' : List L2.Key} {ds ds' : List D} {xs : List V}, RepPs K F qs vs → KsOk ks ds → Reps K F ds xs → tabOf qs ks ds = some (ks', ds') →
    ∃ (kvs : List (L2.Key × V)) (ys : List V), vs = kvs.map (fun kv => (kV kv.1, kv.2)) ∧ kvs.length = qs.length ∧ mergeK (ks.zip xs) kvs = ks'.zip ys ∧ KsOk ks' ds' ∧ Reps K F ds' ys
  | [], _, ks, ks', ds, ds', xs, r, l, rx, h => by
    cases r; cases h
    exact ⟨[], xs, rfl, rfl, rfl, l, rx⟩
  | (x, y) :: qs, _, ks, ks', ds, ds', xs, ⟨v, w, rr, e, r1, r2, r3⟩, l, rx, h => by
    subst e
    simp only [tabOf] at h
    split at h
    · rename_i k hk
      obtain ⟨ys, e1, e2⟩ := setK_zip (j := k) l.1 rx r2
      obtain ⟨kvs, zs, i1, i2, i3, i4, i5⟩ := tab_ok r3 (l.set (keyD_sok r1 hk)) e2 h
      refine ⟨(k, w) :: kvs, zs, ?_, by simp [i2], ?_, i4, i5⟩
      · rw [keyD_ok r1 hk, i1]; rfl
      · rw [← i3, ← e1]; rfl
    · cases h
theorem pps_up {pos : Pos} {k v : Expr} {ks : List (Option Expr)} {vs : List Expr} {tk tv : DE} {ps : List (DE × DE)} (hk : PDE X k tk) (hv : PDE X v tv) (hr : PPs X pos ks vs (upPs X.K ps)) : PPs X pos (some k :: ks) (v :: vs) (upPs X.K ((tk, tv) :: ps)) := pps_cons hk hv hr
theorem pps_up0 {pos : Pos} : PPs X pos [] [] (upPs X.K []) := pps_nil
theorem pd_dct {keys : List (Option Expr)} {values : List Expr} {ps : List (DE × DE)} (h : PPs X pos keys values (upPs X.K ps)) (hn : ps.length ≤ 15 := by decide) (hall : keys.all (·.isSome) = true := by rfl) (hl : keys.length = values.length := by rfl) (h0 : keys ≠ [] := by simp)
    (h15 : keys.length ≤ 15 := by decide) : PDE X (.Dict keys values pos) (dDct ps) :=
  pe_imp (pe_disp h hall hl h0 h15) fun σ H Q ⟨R, F, env, M, Qd, a, e, h, k⟩ p hp => by
    have hR := a.freeR hp
    refine pairs_up ps (a.lend hp _) e h fun F1 H1 M1 qs vs s1 a1 r1 l1 q1 => ⟨(a1.fr p _ upd_same).2.2, ?_⟩
    split at q1
    · rename_i ks ds ht
      obtain ⟨kvs, ys, i1, i2, i3, i4, i5⟩ := tab_ok (ks := []) (ds := []) (xs := []) r1 ⟨rfl, fun _ h => nomatch h⟩ rfl ht
      refine ⟨kvs, i1, by omega, ?_⟩
      have a2 := a1.relend (.dK (mergeK [] kvs))
      have e3 : mergeK [] kvs = ks.zip ys := i3
      rw [e3] at a2 ⊢
      exact k F1 _ _ (.ref p) _ s1 (a2.takeM hR (o := .dct ks ds) ⟨ys, rfl, i4, i5⟩) rfl (q1 p (a1.fr p _ upd_same).2.1)
    · exact q1.elim
def dFrzN (i : Nat) (t : DS) : DS := fun D env M => match env[i]? with
  | some (some (.ref q)) => match M q with
    | some (.lst ds) => t D (env.set i (some (.lst ds))) (mdel M q)
    | some (.dct ks ds) => t D (env.set i (some (.dct ks ds))) (mdel M q)
    | some (.ins c ds) => t D (env.set i (some (.obj c ds))) (mdel M q)
    | some (.dkd w ks ds) => t D (env.set i (some (.dkd w ks ds))) (mdel M q)
    | _ => False
  | _ => False
theorem EnvR.reset {K : PySem.W.Frag} {F : Hp} {σ : L2.St} {env : DEnv} {i : Nat} {d : D} {v : V} (e : EnvR K F σ env) (hv : σ[i]? = some (some v)) (r : Rep K F d v) : EnvR K F σ (env.set i (some d)) := by
  refine ⟨by rw [List.length_set]; exact e.len, fun j g h => ?_⟩
  by_cases hj : i = j
  · subst hj
    rw [List.getElem?_set] at h
    rw [if_pos rfl] at h
    split at h
    · cases h; exact ⟨v, hv, r⟩
    · cases h
  · rw [List.getElem?_set_ne hj] at h
    exact e.get j g h
theorem ps_lock {st : Stmt} {t : TS} (h : PS X st t) : PS X st (fun D σ H => t D σ H ∨ ∃ d u, H d = some u ∧ Mut (some u) ∧ ∀ o, t D σ (upd H d (.frz o u))) := ⟨fun pins s σ H D I q => by
  rcases q with q | ⟨d, kvs, hd, mu, q⟩
  · exact h.run pins s σ H D I q
  · obtain ⟨od, I2⟩ := I.lock hd mu
    exact h.run pins s σ _ D I2 (q od)⟩
theorem pds_frz {st : Stmt} {t : DS} (i : Nat) (h : PDS X st t) : PDS X st (dFrzN i t) := ps_imp (ps_lock h) fun D σ H ⟨R, F, env, M, Dd, a, e, h, k⟩ => by
  unfold dFrzN at h
  split at h
  · rename_i q hq
    obtain ⟨v, hv, rv⟩ := e.get i _ hq
    cases (show v = V.ref q from rv)
    split at h
    · rename_i ds hm
      obtain ⟨u, ru, a2, s2⟩ := a.freeze hm
      obtain ⟨xs, rfl, rx⟩ := ru
      exact .inl ⟨R, _, _, _, Dd, a2, (e.mono s2).reset hv (d := .lst ds) ⟨q, xs, rfl, upd_same, rx.mono s2⟩, h, k.mono s2⟩
    · rename_i ks ds hm
      obtain ⟨_, u, hu, xs, rfl, l, rx⟩ := a.mu _ _ hm
      refine .inr ⟨q, _, hu, trivial, fun o => ?_⟩
      obtain ⟨a2, s2⟩ := a.freezeAs hm (.frz o (.dK (ks.zip xs)))
      exact ⟨R, _, _, _, Dd, a2, (e.mono s2).reset hv (d := .dct ks ds) ⟨q, o, xs, rfl, upd_same, l, rx.mono s2⟩, h, k.mono s2⟩
    · rename_i c ds hm
      obtain ⟨u, ru, a2, s2⟩ := a.freeze hm
      obtain ⟨dx, xs, rfl, l, rx⟩ := ru
      exact .inl ⟨R, _, _, _, Dd, a2, (e.mono s2).reset hv (d := .obj c ds) ⟨q, dx, xs, rfl, upd_same, l, rx.mono s2⟩, h, k.mono s2⟩
    · rename_i w ks ds hm
      obtain ⟨_, u, hu, Ls, rfl, l, r1, r2⟩ := a.mu _ _ hm
      refine .inr ⟨q, _, hu, trivial, fun o => ?_⟩
      obtain ⟨a2, s2⟩ := a.freezeAs hm (.frz o (DkO w q Ls))
      exact ⟨R, _, _, _, Dd, a2, (e.mono s2).reset hv (d := .dkd w ks ds) ⟨q, o, Ls, rfl, upd_same, l, r1.mono s2, r2.mono s2⟩, h, k.mono s2⟩
    · exact h.elim
  · exact h.elim
end
end L3
set_option Elab.async false
set_option linter.all false
set_option maxRecDepth 100000
set_option maxHeartbeats 1000000
namespace NS
open PySem PySem.Spec PyProof.Rows L2
def MaskG (m : Nat) : Prop := m = 7 ∨ m = 31 ∨ m = 127 ∨ m = 511 ∨ m = 2047 ∨ m = 8191
theorem MaskG.le {m : Nat} (h : MaskG m) : m ≤ 8191 := by rcases h with rfl | rfl | rfl | rfl | rfl | rfl <;> decide
theorem MaskG.pos {m : Nat} (h : MaskG m) : 7 ≤ m := by rcases h with rfl | rfl | rfl | rfl | rfl | rfl <;> decide
structure TabG (t : SetTable) (hs : List Int) : Prop where
  ris : Ris t.place.toList
  dm : t.dummies = #[]
  sz : t.place.size = hs.length
  mok : MaskG t.mask
  bd : ∀ x ∈ t.place.toList, x ≤ t.mask
  found : ∀ q ∈ hs.zip t.place.toList, ∃ n, way t.mask q.1 n = q.2 ∧ ∀ n', n' < n → way t.mask q.1 n' ∈ t.place.toList
section
variable {t : SetTable} {hs : List Int}
theorem TabG.len (T : TabG t hs) : t.place.toList.length = hs.length := T.sz
end
end NS
set_option Elab.async false
set_option linter.all false
set_option maxRecDepth 100000
set_option maxHeartbeats 1000000
namespace NS
open PySem PySem.Spec PyProof.Rows L2
section
variable {P : Program} {w : World}
/-- the tuple at b is the key k -/
structure Kat (h : Heap) (k : NestedKey) (b : Addr) : Prop where
  is : NestedIs h k (.ref b)
  dp : k.depth ≤ 8
theorem Kat.keep {h h' : Heap} {k : NestedKey} {b : Addr} (x : Kat h k b) (hk : ∀ c o, h.get? c = some o → h'.get? c = some o) : Kat h' k b := ⟨x.is.at (fun a o _ _ e _ => hk a o e) k _ , x.dp⟩
end
section
variable {P : Program} {w : World}
/-- the rows of the set, by the keys at their addresses -/
def rowsN (w : World) (L : List (Addr × NestedKey)) : List (Int × Value) := L.map fun r => (r.2.hash w, Value.ref r.1)
abbrev hsN (w : World) (L : List (Addr × NestedKey)) : List Int := L.map fun r => r.2.hash w
structure NSet (w : World) (h : Heap) (a : Addr) (L : List (Addr × NestedKey)) (es : Array (Int × Value)) (ep : Nat) (t : SetTable) : Prop where
  obj : ∃ o, h.get? a = some o ∧ o.ExactSet ∧ o.data = .set es ep t
  row : es.toList = rowsN w L
  tb : TabG t (hsN w L)
  uniq : (L.map (·.2)).Nodup
  key : ∀ r ∈ L, Kat h r.2 r.1
  led : w.params.followText "set-order" = true ∨ t.led = true
  free : L.length * 5 < t.mask * 3
  few : L.length < 4096
section
variable {s : Shared} {a : Addr} {L : List (Addr × NestedKey)} {es : Array (Int × Value)} {ep : Nat} {t : SetTable}
theorem NSet.get (S : NSet w s.heap a L es ep t) {i : Nat} {r : Addr × NestedKey} (e : L[i]? = some r) : es[i]? = some (r.2.hash w, Value.ref r.1) := by
  rw [← Array.getElem?_toList, S.row, rowsN, List.getElem?_map, e]; rfl
end
end
/-- what stands in the set behind i items -/
structure Has (ks : List (Addr × NestedKey)) (i : Nat) (L : List (Addr × NestedKey)) : Prop where
  from_ : ∀ r ∈ L, r ∈ ks.take i
  all : ∀ r ∈ ks.take i, r.2 ∈ L.map (·.2)
  few : L.length ≤ i
theorem Has.new {ks L L2 : List (Addr × NestedKey)} {i : Nat} {r : Addr × NestedKey} (g : Has ks i L) (e : ks[i]? = some r) (pm : L2.Perm (r :: L)) : Has ks (i + 1) L2 := by
  have et : ks.take (i + 1) = ks.take i ++ [r] := by rw [List.take_add_one, e]; rfl
  refine ⟨fun q hq => ?_, fun q hq => ?_, by rw [pm.length_eq]; exact Nat.succ_le_succ g.few⟩
  · rw [et]
    rcases List.mem_cons.mp (pm.mem_iff.mp hq) with z | z
    · exact List.mem_append_right _ (by rw [z]; exact List.mem_singleton.mpr rfl)
    · exact List.mem_append_left _ (g.from_ q z)
  · rw [(pm.map (·.2)).mem_iff]
    rw [et] at hq
    rcases List.mem_append.mp hq with z | z
    · exact List.mem_cons_of_mem _ (g.all q z)
    · rw [List.mem_singleton.mp z]; exact List.mem_cons_self
theorem NSet.stay {w : World} {h h' : Heap} {a : Addr} {L : List (Addr × NestedKey)} {es : Array (Int × Value)} {ep : Nat} {t : SetTable} (S : NSet w h a L es ep t) (ha : ∀ o, h.get? a = some o → h'.get? a = some o) (hk : ∀ r ∈ L, Kat h' r.2 r.1) : NSet w h' a L es ep t :=
  ⟨S.obj.imp fun o ⟨e, r⟩ => ⟨ha o e, r⟩, S.row, S.tb, S.uniq, hk, S.led, S.free, S.few⟩
end NS
set_option Elab.async false
set_option linter.all false
set_option maxRecDepth 100000
set_option maxHeartbeats 1000000
namespace NS
open PySem PySem.Spec PyProof.Rows L2
end NS
set_option Elab.async false
set_option linter.all false
set_option maxRecDepth 100000
set_option maxHeartbeats 1000000
namespace L3
open PySem PySem.Spec PyProof.Rows L2
section
variable {X : Cx} {a b o i : Expr} {e : Expr} {es : List Expr} {te ta tb to ti : DE} {t : DA} {pos p apos tpos : Pos}
def flatD : D → Bool
  | .non => true
  | .bl _ => true
  | .int _ => true
  | .str _ => true
  | _ => false
structure CallD2 (X : Cx) (f : Value) (r : R2D) : Prop where
  ex : ∃ rV, CallR X f rV ∧ ∀ R F M H d e x y Qd Q, At X.K R F M H → Rep X.K F d x → Rep X.K F e y → r d e M Qd → KD X.K R F Qd Q → rV [x, y] H Q
theorem pd_bltn2 {x : Str} {f : String} {r : R2D} (hc : CallD2 X (.builtin f) r) (hm : X.mg x = none) (ha : PDE X a ta) (hb : PDE X b tb) (hv : bootBuiltins x = some (.builtin f) := by decide +kernel) (hg : Gl X x := by rfl) (hn : x ≠ "__name__" := by decide) (hdb : (x == ("__debug__" : Str)) = false := by decide)
    (he : starEach [a, b] X.env = (false, eval a X.env) :: starEach [b] X.env := by rfl) (he2 : starEach [b] X.env = (false, eval b X.env) :: starEach [] X.env := by rfl) (hpl : (backTo pos (starEach [b] X.env)).any (·.1) = false := by rfl) : PDE X (.Call (.Name x p) [a, b] [] pos) (dBin r ta tb) := by
  obtain ⟨rV, h1, h2⟩ := hc.ex
  exact pe_imp (pe_callB h1 hg hm hv (pa_cons ha (pa_cons hb pa_nil he2) he) hn hdb he hpl) fun σ H Q ⟨R, F, env, M, Qd, a, e, h, k⟩ =>
    ⟨R, F, env, M, _, a, e, h, fun F1 H1 M1 d v s1 a1 r1 h1 => ⟨R, F1, env, M1, _, a1, e.mono s1, h1, fun F2 H2 M2 d2 v2 s2 a2 r2 q2 => h2 R F2 M2 H2 d d2 v v2 Qd Q a2 (r1.mono s2) r2 q2 (k.mono (s1.trans s2))⟩⟩
abbrev rMaxI : R2D := r2J fun i j => .int (if j > i then j else i)
theorem calld_max (hc : X.calm = true := by rfl) : CallD2 X (.builtin "max") rMaxI := ⟨_, call_max2 hc, fun R F M H d e x y Qd Q a r1 r2 q kd => by
  unfold rMaxI r2J at q
  split at q
  · rename_i i j
    obtain rfl : x = V.int i := r1
    obtain rfl : y = V.int j := r2
    exact ⟨i, j, rfl, kd F H M (.int _) _ (Same.refl _) a rfl q⟩
  · exact q.elim⟩
end
end L3
set_option Elab.async false
set_option linter.all false
set_option maxRecDepth 100000
set_option maxHeartbeats 1000000
set_option Elab.async false
set_option linter.all false
set_option maxRecDepth 100000
set_option maxHeartbeats 1000000
set_option Elab.async false
set_option linter.all false
set_option maxRecDepth 100000
set_option maxHeartbeats 1000000
namespace L3
open PySem PySem.Spec PyProof.Rows L2
section
variable {X : Cx} {e : Expr} {te to : DE} {pos p apos : Pos}
def dSplit (to te : DE) : DE := fun env M Q => to env M fun o M1 => match o with
  | .str a => te env M1 fun d M2 => match d with
    | .str b => (b.length == 0) = false ∧ a.length + 2 ≤ sizeLine ∧ (∀ y ∈ Txt.split a b, SOk y) ∧ Q (.lst ((Txt.split a b).map D.str)) M2
    | _ => False
  | _ => False
theorem reps_strs {K : PySem.W.Frag} {F : Hp} : ∀ {ys : List Str}, (∀ y ∈ ys, SOk y) → Reps K F (ys.map D.str) (ys.map V.str)
  | [], _ => rfl
  | y :: ys, h => ⟨.str y, _, rfl, ⟨rfl, h y (List.mem_cons_self ..)⟩, reps_strs fun z hz => h z (List.mem_cons_of_mem _ hz)⟩
theorem pd_split {o : Expr} (ho : PDE X o to) (he : PDE X e te) (hs : starEach [e] X.env = [(false, eval e X.env)] := by rfl) (hbase : attributeBase o "split" X.env (eval o X.env) = eval o X.env := by rfl) (hline : (apos.endLine == pos.line) = true := by rfl) :
    PDE X (.Call (.Attribute o "split" apos) [e] [] pos) (dSplit to te) := by
  refine pe_imp (pe_split ho he hs hbase hline) fun σ H Q ⟨R, F, env, M, Qd, a, e, h, k⟩ => ⟨R, F, env, M, _, a, e, h, fun F1 H1 M1 d v s1 a1 r1 q1 => ?_⟩
  cases d with
  | str x =>
    obtain ⟨rfl, hx⟩ := r1
    refine ⟨⟨x, rfl⟩, R, F1, env, M1, _, a1, e.mono s1, q1, fun F2 H2 M2 d2 v2 s2 a2 r2 q2 => ?_⟩
    cases d2 with
    | str y =>
      obtain ⟨rfl, hy⟩ := r2
      exact ⟨x, y, rfl, rfl, q2.1, q2.2.1, fun p hp => lst_new a2 (reps_strs q2.2.2.1) (k.mono (s1.trans s2)) q2.2.2.2 hp⟩
    | _ => exact q2.elim
  | _ => exact q1.elim
end
end L3
set_option Elab.async false
set_option linter.all false
set_option maxRecDepth 100000
set_option maxHeartbeats 1000000
namespace L3
open PySem PySem.Spec PyProof.Rows L2
section
variable {X : Cx} {a b o : Expr} {e : Expr} {es : List Expr} {te ta tb to : DE} {t : DA} {pos p apos tpos : Pos}
/-- .. and keeps a promise -/
structure MethOk (P : Program) (w : World) (K : PySem.W.Frag) (mg : Str → Option Value) (base : Heap) (k : Nat) (c : Cl) (m : Str) (n : Nat) (sp : SpD) : Prop where
  ex : ∃ f fd ps, FnOk P w K mg base (L2N.CX P w) k f fd ps (upSp K n sp) ∧ ps.length = n ∧ Meth K (He.ga K c.nm) m f ∧ Binds K fd ps []
theorem MethOk.mono {P : Program} {w : World} {K : PySem.W.Frag} {mg : Str → Option Value} {base : Heap} {j k : Nat} {c : Cl} {x : Str} {n : Nat} {sp : SpD} (d : MethOk P w K mg base j c x n sp) (h : j ≤ k) : MethOk P w K mg base k c x n sp := by
  obtain ⟨f, fd, ps, a, b⟩ := d.ex
  exact ⟨f, fd, ps, a.mono h, b⟩
/-- the class c is made by an __init__ that keeps a promise; n values are written, dfl the defaults behind them -/
structure MkOk (P : Program) (w : World) (K : PySem.W.Frag) (mg : Str → Option Value) (base : Heap) (k : Nat) (c : Cl) (n : Nat) (dfl : List D) (sp : SpD) : Prop where
  ex : ∃ f fd ps ds dvs, FnOk P w K mg base (L2N.CX P w) k f fd ps (upSp K (n + 1 + dfl.length) sp) ∧ Mk K (He.ga K c.nm) f ∧ mg c.nm = some (.ref (He.ga K c.nm)) ∧ Binds K fd ps ds ∧ Vals dvs ds ∧ ∀ F, Reps K F dfl dvs
theorem MkOk.mono {P : Program} {w : World} {K : PySem.W.Frag} {mg : Str → Option Value} {base : Heap} {j k : Nat} {c : Cl} {n : Nat} {dfl : List D} {sp : SpD} (d : MkOk P w K mg base j c n dfl sp) (h : j ≤ k) : MkOk P w K mg base k c n dfl sp := by
  obtain ⟨f, fd, ps, ds, dvs, a, b⟩ := d.ex
  exact ⟨f, fd, ps, ds, dvs, a.mono h, b⟩
end
end L3
set_option Elab.async false
set_option linter.all false
set_option maxRecDepth 100000
set_option maxHeartbeats 1000000
set_option Elab.async false
set_option linter.all false
set_option maxRecDepth 100000
set_option maxHeartbeats 4000000
namespace L3
open PySem PySem.Spec PyProof.Rows L2
open PySem.Sem (wp)
open AutoSeq1 (wpAny_loadPart')
section
variable {X : Cx}
theorem reps_rep {K : PySem.W.Frag} {F : Hp} {ds : List D} {vs : List V} (r : Reps K F ds vs) : ∀ n : Nat, Reps K F (List.replicate n ds).flatten (List.replicate n vs).flatten
  | 0 => rfl
  | n + 1 => by
    rw [List.replicate_succ, List.replicate_succ, List.flatten_cons, List.flatten_cons]
    exact r.append (reps_rep r n)
/-- int(x) of an int, a truth value, a text -/
def rIntB : R1D := fun d M Q => match d with
  | .int i => Q (.int i) M
  | .bl b => Q (.int (if b then 1 else 0)) M
  | .str x => match PySem.intText? x with
    | some n => x.length ≤ 640 ∧ Q (.int n) M
    | none => False
  | _ => False
theorem calld_intB : CallD X (.type "int") rIntB := ⟨_, call_int1.or call_int_str, fun R F M H d x Qd Q a r q kd => by
  cases d with
  | int i => cases (show x = V.int i from r); exact .inl (.inl ⟨i, rfl, kd F H M (.int i) _ (Same.refl _) a rfl q⟩)
  | bl b => cases (show x = V.bl b from r); exact .inl (.inr ⟨b, rfl, kd F H M (.int _) _ (Same.refl _) a rfl q⟩)
  | str y =>
    obtain ⟨e, hy⟩ := r
    subst e
    change (match PySem.intText? y with | some n => _ | none => False) at q
    split at q
    · rename_i n hn
      exact .inr ⟨y, n, rfl, hn, q.1, kd F H M (.int n) _ (Same.refl _) a rfl q.2⟩
    · exact q.elim
  | _ => exact q.elim⟩
variable {a b o i : Expr} {e : Expr} {te ta to ti : DE} {pos p apos : Pos}
end
end L3
set_option Elab.async false
set_option linter.all false
set_option maxRecDepth 100000
set_option maxHeartbeats 1000000
namespace L3
open PySem PySem.Spec PyProof.Rows L2
structure InitOk (P : Program) (w : World) (K : PySem.W.Frag) (mg : Str → Option Value) (base : Heap) (k : Nat) (c : Cl) (qual : Str) (st : Stmt) (ps : List Str) (dfl : List D) (sp : SpD) : Prop where
  ex : ∃ f fd dvs, FnOk P w K mg base (L2N.CX P w) k f fd ps (upSp K ps.length sp) ∧ FunD K "__init__" qual (defArgs st) (defBody st) (defScope st) dvs [] f fd ∧ Mk K (He.ga K c.nm) f ∧ mg c.nm = some (.ref (He.ga K c.nm)) ∧ ∀ F, Reps K F dfl dvs
theorem nodflt {K : PySem.W.Frag} {dvs : List V} {ds : List D} {F : Hp} (r : Reps K F ds dvs) (h : ds ≠ []) : dvs ≠ [] := by
  intro e
  subst e
  exact h (List.eq_nil_of_length_eq_zero r.length)
/-- made with n values written, the defaults from the j-th on behind them -/
theorem InitOk.make {P : Program} {w : World} {K : PySem.W.Frag} {mg : Str → Option Value} {base : Heap} {k : Nat} {c : Cl} {qual : Str} {st : Stmt} {ps : List Str} {dfl : List D} {sp : SpD} (o : InitOk P w K mg base k c qual st ps dfl sp) (n j : Nat) (hne : dfl ≠ []) (hn : n + 1 + (dfl.length - j) = ps.length)
    (h : ∀ (T : Addr) (kV doc pm : Value) (an : Option Addr) (cdv ct : Value) (us its : List Value), us.length = n + 1 → its.length = dfl.length →
      ∃ k, bindArgs (PySem.W.fnOf "__init__" qual (defArgs st) (defBody st) (defScope st) (.ref T) kV doc pm an cdv ct) ⟨us, []⟩ = seqItems? (.ref T) >>= k ∧ k (some its.toArray) = pure (ps.zip (us ++ its.drop j))) : MkOk P w K mg base k c n (dfl.drop j) sp := by
  obtain ⟨f, fd, dvs, G, F, hm, hg, hd⟩ := o.ex
  have hl := (hd (fun _ => none)).length
  obtain ⟨ds, h1, h2⟩ := F.binds1 (ps := ps) (n + 1) j (nodflt (hd fun _ => none) hne) (by omega) fun T kV doc pm an cdv ct us its hu hi => h T kV doc pm an cdv ct us its hu (by omega)
  refine ⟨f, fd, ps, ds, dvs.drop j, ?_, hm, hg, h2, h1, fun F => (hd F).drop j⟩
  have e : n + 1 + (dfl.drop j).length = ps.length := by rw [List.length_drop]; omega
  rw [e]
  exact G
abbrev AlX : Type := Bool × He.AlD
def obsX (fb : List (PySem.W.Frag → Bool)) (fa : List He.Fa) (fn : List He.DefD) (K : PySem.W.Frag) : AlX := (fb.all fun b => b K, He.obsD fa fn K)
def valX (fn : List He.DefD) : AlX := (true, He.valD fn)
def SaysX (fb : List (PySem.W.Frag → Bool)) (fa : List He.Fa) (fn : List He.DefD) (K : PySem.W.Frag) : Prop := obsX fb fa fn K = valX fn
section
variable {fb : List (PySem.W.Frag → Bool)} {fa : List He.Fa} {fn : List He.DefD} {K : PySem.W.Frag}
theorem SaysX.d (c : SaysX fb fa fn K) : He.SaysD fa fn K := congrArg (fun z : AlX => z.2) c
theorem SaysX.b (c : SaysX fb fa fn K) (i : Nat) {f : PySem.W.Frag → Bool} (h : fb[i]? = some f := by rfl) : f K = true :=
  List.all_eq_true.mp (show (fb.all fun b => b K) = true from congrArg (fun z : AlX => z.1) c) f (List.mem_of_getElem? h)
end
end L3
set_option Elab.async false
set_option linter.all false
set_option maxRecDepth 100000
set_option maxHeartbeats 1000000
namespace L3
open PySem PySem.Spec PyProof.Rows L2
section
variable {X : Cx}
abbrev rDivW : R2D := r2I CDivW fun i j => .int (i / j)
theorem opd_fdivW : OpD X (binaryOp .FloorDiv) rDivW := opd_int op_fdivW fun _ _ _ _ => rfl
end
theorem div_wide {j : Int} (i : Int) (h : 0 < j) (h2 : j < 2 ^ 60) : CDivW i j := wide_div (b := 60) h (by omega) (by decide) (by decide)
end L3
set_option Elab.async false
set_option linter.all false
set_option maxRecDepth 100000
set_option maxHeartbeats 1000000
namespace L3
open PySem PySem.Spec PyProof.Rows L2
local macro_rules | `(tactic| walk_at "w") => `(tactic| conv => whnf)
set_option hygiene false in
local macro_rules | `(tactic| walk_at "m") => `(tactic| (conv => whnf; rw [resD_ref hM]; conv => whnf))
set_option hygiene false in
local macro_rules | `(tactic| walk_at "n") => `(tactic| (conv => whnf; rw [resD_new]; conv => whnf))
theorem resD_ref {M : Mp} {p : Addr} {ds : List D} (h : M p = some (.lst ds)) : resD M (.ref p) = .lst ds := by
  simp only [resD, h]
theorem resD_new {M : Mp} {p : Addr} {ds : List D} : resD (mupd M p (.lst ds)) (.ref p) = .lst ds := resD_ref mupd_same
def letters : Str := "abcdefghijklmnopqrstuvwxyz"
theorem letters_list : letters.cps.toList = (List.range 26).map (· + 97) := by decide +kernel
def isLetter (c : Nat) : Bool := decide (97 ≤ c) && decide (c ≤ 122)
theorem mem_letters (c : Nat) : c ∈ letters.cps.toList ↔ isLetter c = true := by
  rw [letters_list, List.mem_map]
  unfold isLetter
  rw [Bool.and_eq_true, decide_eq_true_eq, decide_eq_true_eq]
  constructor
  · rintro ⟨a, h, rfl⟩
    have := List.mem_range.mp h
    omega
  · rintro ⟨h1, h2⟩
    exact ⟨c - 97, List.mem_range.mpr (by omega), by omega⟩
def isName (x : Str) : Bool := decide (0 < x.length) && (decide (x.length ≤ 6) && x.cps.toList.all isLetter)
theorem lc_go {t : Tg} {tt : DT} {te : DE} {env : DEnv} {Q : List D → Mp → Prop} {xs : List D} (Pv : Nat → List D → Mp → Prop)
    (hs : ∀ i x acc M (K : List D → Mp → Prop), xs[i]? = some x → Pv i acc M → (∀ acc' M', Pv (i + 1) acc' M' → K acc' M') → t.bind x env fun env1 => tt env1 M fun b M1 => brn b (te env1 M1 fun y M2 => K (acc ++ [y]) M2) (K acc M1))
    (hd : ∀ acc M, Pv xs.length acc M → Q acc M) : ∀ (r : List D) (k : Nat) (acc : List D) (M : Mp), xs.drop k = r → k ≤ xs.length → Pv k acc M → dLcL0 t tt te env r acc M Q
  | [], k, acc, M, e, hk, p => by
    have : k = xs.length := by have := List.drop_eq_nil_iff.mp e; omega
    subst this
    exact hd acc M p
  | x :: r, k, acc, M, e, hk, p => by
    have hx : xs[k]? = some x := by rw [← List.head?_drop, e]; rfl
    have hr : xs.drop (k + 1) = r := by rw [← List.drop_drop, e]; rfl
    have hlt : k < xs.length := (List.getElem?_eq_some_iff.mp hx).1
    exact hs k x acc M _ hx p fun acc' M' p' => lc_go Pv hs hd r (k + 1) acc' M' hr hlt p'
theorem lc_inv {t : Tg} {tt : DT} {te : DE} {env : DEnv} {M : Mp} {Q : List D → Mp → Prop} {xs : List D} (Pv : Nat → List D → Mp → Prop) (h0 : Pv 0 [] M)
    (hs : ∀ i x acc M (K : List D → Mp → Prop), xs[i]? = some x → Pv i acc M → (∀ acc' M', Pv (i + 1) acc' M' → K acc' M') → t.bind x env fun env1 => tt env1 M fun b M1 => brn b (te env1 M1 fun y M2 => K (acc ++ [y]) M2) (K acc M1))
    (hd : ∀ acc M, Pv xs.length acc M → Q acc M) : dLcL t tt te env xs [] M Q := by
  rw [dLcL_eq]; exact lc_go Pv hs hd xs 0 [] M rfl (Nat.zero_le _) h0
/-- each element is one value, nothing changes -/
theorem lc_map {t : Tg} {tt : DT} {te : DE} {env : DEnv} {M : Mp} {Q : List D → Mp → Prop} {xs : List D} (f : D → D)
    (h : ∀ x ∈ xs, ∀ (K1 : DK) (K2 : Mp → Prop), K1 (f x) M → t.bind x env fun env1 => tt env1 M fun b M1 => brn b (te env1 M1 K1) (K2 M1)) (q : Q (xs.map f) M) : dLcL t tt te env xs [] M Q := by
  refine lc_inv (fun i acc M' => M' = M ∧ acc = (xs.take i).map f) ⟨rfl, by simp⟩ (fun i x acc M' K hx ⟨e1, e2⟩ hK => ?_) fun acc M' ⟨e1, e2⟩ => ?_
  · subst e1
    refine h x (List.mem_of_getElem? hx) _ _ (hK _ _ ⟨rfl, ?_⟩)
    rw [e2, List.take_add_one, hx]; simp
  · rw [e1, e2, List.take_length]; exact q
theorem for_go {t : Tg} {tb : DS} {E : DEnds} {xs : List D} (Pv : Nat → DEnv → Mp → Prop)
    (hs : ∀ i x env M (K : DEnv → Mp → Prop), xs[i]? = some x → Pv i env M → (∀ env' M', Pv (i + 1) env' M' → K env' M') → t.bind x env fun env1 => tb { E with nx := K, ct := K, bk := E.nx } env1 M)
    (hd : ∀ env M, Pv xs.length env M → E.nx env M) : ∀ (r : List D) (k : Nat) (env : DEnv) (M : Mp), xs.drop k = r → k ≤ xs.length → Pv k env M → dForL0 t tb r E env M
  | [], k, env, M, e, hk, p => by
    have : k = xs.length := by have := List.drop_eq_nil_iff.mp e; omega
    subst this
    exact hd env M p
  | x :: r, k, env, M, e, hk, p => by
    have hx : xs[k]? = some x := by rw [← List.head?_drop, e]; rfl
    have hr : xs.drop (k + 1) = r := by rw [← List.drop_drop, e]; rfl
    have hlt : k < xs.length := (List.getElem?_eq_some_iff.mp hx).1
    exact hs k x env M _ hx p fun env' M' p' => for_go Pv hs hd r (k + 1) env' M' hr hlt p'
theorem for_inv {t : Tg} {tb : DS} {E : DEnds} {xs : List D} {env : DEnv} {M : Mp} (Pv : Nat → DEnv → Mp → Prop) (h0 : Pv 0 env M)
    (hs : ∀ i x env M (K : DEnv → Mp → Prop), xs[i]? = some x → Pv i env M → (∀ env' M', Pv (i + 1) env' M' → K env' M') → t.bind x env fun env1 => tb { E with nx := K, ct := K, bk := E.nx } env1 M)
    (hd : ∀ env M, Pv xs.length env M → E.nx env M) : dForL t tb xs E env M := by
  rw [dForL_eq]; exact for_go Pv hs hd xs 0 env M rfl (Nat.zero_le _) h0
theorem rng_at {lo : Int} {n i : Nat} {x : D} (h : (rng lo n)[i]? = some x) : i < n ∧ x = .int (lo + i) := by
  have hlt : i < n := by have := (List.getElem?_eq_some_iff.mp h).1; rwa [rng_length] at this
  unfold rng at h
  rw [List.getElem?_map, List.getElem?_range hlt] at h
  cases h
  exact ⟨hlt, rfl⟩
structure Bag where
  cells : List Int
  at_ : Int
  left : Int
  seed : Int
def Bag.l (b : Bag) : List D := [.lst (b.cells.map D.int), .int b.at_, .int b.left, .int b.seed]
structure Bag.Ok (b : Bag) : Prop where
  at0 : 0 ≤ b.at_
  at1 : b.at_ ≤ b.cells.length
  left0 : 0 ≤ b.left
  seed0 : 0 ≤ b.seed
  seed1 : b.seed < 2147483563
def sp_law_bag : SpD := fun ds M Q _ => ∃ ns : List Int, ds = [.lsk (ns.map D.int)] ∧ ∀ p b, M p = none → Bag.Ok b → Q (.ref p) (mupd M p (.lst b.l))
def t_law_bag_1 : DS := (dRet (dLstM (dCons (dUn rListD (dSl (dVar 0) dNoPart (dPart (dC (.int 63))))) (dCons (dC (.int 0)) (dCons (dC (.int 0)) (dCons (dVar 1) dNil))))))
def t_law_bag : DS := (dSeq (dSet 1 (dC (.int 9450)))
    (dSeq (dFor (iLst (dSl (dVar 0) dNoPart (dPart (dC (.int 63))))) (.name 2) (dSet 1 (dBin rModI (dBin rAddD (dBin rAddD (dBin rMulI (dVar 1) (dC (.int 40014))) (dBin rModI (dVar 2) (dC (.int 2147483563)))) (dC (.int 13))) (dC (.int 2147483563)))))
    t_law_bag_1))
theorem cut_map {α β : Type} (f : α → β) (xs : List α) (lo hi : Option Int) : cut (xs.map f) lo hi = (cut xs lo hi).map f := by
  unfold cut; simp [List.map_drop, List.map_take]
theorem r_law_bag (ds : List D) (M : Mp) (Q : DK) (E : DX) (hl : ds.length = 1) (h : sp_law_bag ds M Q E) : t_law_bag { nx := fun _ M' => Q .non M', rt := Q } (startD ["_law_script", "_law_salt", "_law_cell"] ds) M := by
  obtain ⟨ns, rfl, q⟩ := h
  walk_at "w"
  rw [cut_map]
  refine for_inv (fun i env M' => M' = M ∧ ∃ (salt : Int) (c : Option D), env = [some (.lsk (ns.map D.int)), some (.int salt), c] ∧ 0 ≤ salt ∧ salt < 2147483563) ⟨rfl, 9450, none, rfl, by omega, by omega⟩ (fun i x env M' K hx ⟨e, salt, c, he, h0, h1⟩ hK => ?_) fun env M' ⟨e, salt, c, he, h0, h1⟩ => ?_
  · subst e he
    have hm := List.mem_of_getElem? hx
    obtain ⟨z, _, rfl⟩ := List.mem_map.mp hm
    walk_at "w"
    refine ⟨.inl (by omega), by omega, by omega, hK _ _ ⟨rfl, _, _, rfl, by omega, by omega⟩⟩
  · subst e he
    walk_at "w"
    intro p hp
    rw [cut_map]
    exact q p ⟨cut ns none (some 63), 0, 0, salt⟩ hp ⟨by show (0 : Int) ≤ 0; omega, by show (0 : Int) ≤ _; omega, by show (0 : Int) ≤ 0; omega, h0, h1⟩
theorem atI_0 {α : Type} {x : α} {xs : List α} : atI (x :: xs) 0 = some x := by
  unfold atI ixN; simp
theorem atI_in {α : Type} {xs : List α} {i : Int} (h0 : 0 ≤ i) (h1 : i < xs.length) : ∃ x, atI xs i = some x ∧ x ∈ xs := by
  obtain ⟨j, rfl⟩ := Int.eq_ofNat_of_zero_le h0
  have hj : j < xs.length := by omega
  exact ⟨xs[j], atI_nat (List.getElem?_eq_getElem hj), List.getElem_mem hj⟩
def sp_law_pull : SpD := fun ds M Q _ => ∃ p b n, ds = [.ref p, .int n] ∧ M p = some (.lst (Bag.l b)) ∧ b.Ok ∧ 0 < n ∧ n < 1152921504606846976 ∧ ∀ r b', Bag.Ok b' → 0 ≤ r → r < n → Q (.int r) (mupd M p (.lst b'.l))
def t_law_pull_1 : DS := (dSeq (dSet 2 (dBin rIxD (dVar 0) (dC (.int 3))))
    (dSeq (dSetIx (dBin rModI (dBin rAddD (dBin rAddD (dBin rMulI (dBin rMulI (dVar 2) (dVar 2)) (dC (.int 3))) (dBin rMulI (dVar 2) (dC (.int 16807)))) (dC (.int 1013904223))) (dC (.int 2147483563))) (dVar 0) (dC (.int 3)))
    (dRet (dBin rModI (dBin rAddD (dBin rDivW (dBin rIxD (dVar 0) (dC (.int 3))) (dC (.int 61))) (dBin rMulI (dBin rModI (dBin rIxD (dVar 0) (dC (.int 3))) (dC (.int 8191))) (dC (.int 17)))) (dVar 1)))))
def t_law_pull_2 : DS := (dSeq (dIfS (dTest (dBin rGtI (dBin rIxD (dVar 0) (dC (.int 2))) (dC (.int 0)))) (dSeq (dSet 4 (dBin rModI (dBin rIxD (dVar 0) (dC (.int 2))) (dVar 1)))
    (dSeq (dSetIx (dBin rDivW (dBin rIxD (dVar 0) (dC (.int 2))) (dVar 1)) (dVar 0) (dC (.int 2)))
    (dRet (dVar 4)))) dNext)
    t_law_pull_1)
def t_law_pull : DS := (dSeq (dIfS (dAnd (dTest (dBin (rEqDD id) (dBin rIxD (dVar 0) (dC (.int 2))) (dC (.int 0)))) (dTest (dBin rLtI (dBin rIxD (dVar 0) (dC (.int 1))) (dUn rLenD (dBin rIxD (dVar 0) (dC (.int 0))))))) (dSeq (dSet 3 (dBin rIxD (dBin rIxD (dVar 0) (dC (.int 0))) (dBin rIxD (dVar 0) (dC (.int 1)))))
    (dSeq (dSetIx (dBin rAddD (dBin rIxD (dVar 0) (dC (.int 1))) (dC (.int 1))) (dVar 0) (dC (.int 1)))
    (dIfS (dTest (dBin rGeI (dVar 3) (dBin rPowI (dC (.int 10)) (dC (.int 18))))) (dSetIx (dBin rSubI (dVar 3) (dBin rPowI (dC (.int 10)) (dC (.int 18)))) (dVar 0) (dC (.int 2))) (dSetIx (dBin rModI (dBin rAddD (dBin rAddD (dBin rMulI (dBin rIxD (dVar 0) (dC (.int 3))) (dC (.int 48271))) (dBin rMulI (dBin rModI (dVar 3) (dC (.int 2147483563))) (dC (.int 69621)))) (dC (.int 7))) (dC (.int 2147483563))) (dVar 0) (dC (.int 3)))))) dNext)
    t_law_pull_2)
theorem eqD_int {i j : Int} : eqD (.int i) (.int j) = (i == j) := rfl
theorem r_pull1 (p : Addr) (b : Bag) (n : Int) (M : Mp) (Q : DK) (nx : DEnv → Mp → Prop) (c : Option D) (hM : M p = some (.lst b.l)) (hb : b.Ok) (h0 : 0 < n) (h1 : n < 1152921504606846976)
    (q : ∀ r b', Bag.Ok b' → 0 ≤ r → r < n → Q (.int r) (mupd M p (.lst b'.l))) : t_law_pull_1 { nx := nx, rt := Q } [some (.ref p), some (.int n), none, c, none] M := by
  have s0 := hb.seed0
  have s1 := hb.seed1
  walk_at "m"
  refine ⟨.inl (by omega), ?_⟩
  walk_at "w"
  refine ⟨.inr (by omega), ?_⟩
  walk_at "w"
  refine ⟨.inl (by omega), ?_⟩
  walk_at "w"
  refine ⟨by omega, ?_⟩
  walk_at "w"
  rw [hM]
  walk_at "n"
  refine ⟨div_wide _ (by decide) (by decide), ?_⟩
  walk_at "n"
  refine ⟨by show (0 : Int) < 8191; omega, ?_⟩
  walk_at "w"
  refine ⟨.inr (by omega), ?_⟩
  walk_at "w"
  refine ⟨h0, ?_⟩
  exact q _ { b with seed := (b.seed * b.seed * 3 + b.seed * 16807 + 1013904223) % 2147483563 } ⟨hb.at0, hb.at1, hb.left0, Int.emod_nonneg _ (by decide), Int.emod_lt_of_pos _ (by decide)⟩ (Int.emod_nonneg _ (by omega)) (Int.emod_lt_of_pos _ h0)
theorem r_pull2 (p : Addr) (b : Bag) (n : Int) (M : Mp) (Q : DK) (nx : DEnv → Mp → Prop) (c : Option D) (hM : M p = some (.lst b.l)) (hb : b.Ok) (h0 : 0 < n) (h1 : n < 1152921504606846976)
    (q : ∀ r b', Bag.Ok b' → 0 ≤ r → r < n → Q (.int r) (mupd M p (.lst b'.l))) : t_law_pull_2 { nx := nx, rt := Q } [some (.ref p), some (.int n), none, c, none] M := by
  walk_at "m"
  refine brn_by (fun hc => ?_) fun hc => r_pull1 p b n M Q nx c hM hb h0 h1 q
  have hl : 0 < b.left := of_decide_eq_true hc
  walk_at "m"
  refine ⟨h0, ?_⟩
  walk_at "m"
  refine ⟨div_wide _ h0 (by omega), ?_⟩
  walk_at "w"
  rw [hM]
  walk_at "w"
  exact q _ { b with left := b.left / n } ⟨hb.at0, hb.at1, Int.ediv_nonneg hb.left0 (by omega), hb.seed0, hb.seed1⟩ (Int.emod_nonneg _ (by omega)) (Int.emod_lt_of_pos _ h0)
theorem r_law_pull (ds : List D) (M : Mp) (Q : DK) (E : DX) (hl : ds.length = 2) (h : sp_law_pull ds M Q E) : t_law_pull { nx := fun _ M' => Q .non M', rt := Q } (startD ["_law_bag_here", "_law_many", "_law_seed", "_law_cell", "_law_got"] ds) M := by
  obtain ⟨p, b, n, rfl, hM, hb, h0, h1, q⟩ := h
  walk_at "m"
  refine ⟨⟨rfl, rfl⟩, ?_⟩
  walk_at "w"
  refine brn_by (fun hc => ?_) fun hc => r_pull2 p b n M Q _ none hM hb h0 h1 q
  walk_at "m"
  rw [resD_ref hM]
  walk_at "w"
  refine brn_by (fun hc2 => ?_) fun hc2 => r_pull2 p b n M Q _ none hM hb h0 h1 q
  walk_at "m"
  have hlt : b.at_ < b.cells.length := by
    have := of_decide_eq_true hc2
    simpa using this
  rw [resD_ref hM]
  walk_at "w"
  obtain ⟨x, hx, hm⟩ := atI_in (xs := b.cells.map D.int) hb.at0 (by simpa using hlt)
  obtain ⟨z, _, rfl⟩ := List.mem_map.mp hm
  rw [hx]
  walk_at "m"
  rw [hM]
  walk_at "w"
  have hb1 : Bag.Ok { b with at_ := b.at_ + 1 } := ⟨by have := hb.at0; show 0 ≤ b.at_ + 1; omega, by show b.at_ + 1 ≤ (b.cells.length : Int); omega, hb.left0, hb.seed0, hb.seed1⟩
  refine ⟨⟨by decide, by decide, by decide⟩, ?_⟩
  walk_at "w"
  refine brn_by (fun hc3 => ?_) fun hc3 => ?_
  · walk_at "w"
    refine ⟨⟨by decide, by decide, by decide⟩, ?_⟩
    walk_at "w"
    rw [mupd_same]
    have hz : (10 : Int) ^ 18 ≤ z := of_decide_eq_true hc3
    refine r_pull2 p { b with at_ := b.at_ + 1, left := z - 10 ^ 18 } n (M := mupd (mupd M p _) p _) Q _ _ mupd_same ⟨hb1.at0, hb1.at1, by show (0 : Int) ≤ z - 10 ^ 18; omega, hb.seed0, hb.seed1⟩ h0 h1 fun r b' h1 h2 h3 => ?_
    rw [mupd_mupd, mupd_mupd]
    exact q r b' h1 h2 h3
  · walk_at "n"
    refine ⟨.inr (by omega), ?_⟩
    walk_at "w"
    refine ⟨by omega, ?_⟩
    walk_at "w"
    refine ⟨.inr (by omega), ?_⟩
    walk_at "w"
    refine ⟨by omega, ?_⟩
    walk_at "w"
    rw [mupd_same]
    refine r_pull2 p { b with at_ := b.at_ + 1, seed := (b.seed * 48271 + z % 2147483563 * 69621 + 7) % 2147483563 } n (M := mupd (mupd M p _) p _) Q _ _ mupd_same ⟨hb1.at0, hb1.at1, hb.left0, Int.emod_nonneg _ (by decide), Int.emod_lt_of_pos _ (by decide)⟩ h0 h1 fun r b' h1 h2 h3 => ?_
    rw [mupd_mupd, mupd_mupd]
    exact q r b' h1 h2 h3
def sp_law_of : SpD := fun ds M Q _ => ∃ p b d xs, ds = [.ref p, d] ∧ M p = some (.lst (Bag.l b)) ∧ b.Ok ∧ 0 < xs.length ∧ xs.length < 1000000 ∧
  ((resD M d = .lst xs ∧ d ≠ .ref p) ∨ d = .tup xs ∨ ∃ x, d = .str x ∧ xs = signs x) ∧ ∀ x b', Bag.Ok b' → x ∈ xs → Q x (mupd M p (.lst b'.l))
def sp_law_letters : SpD := fun ds M Q _ => ds = [] ∧ Q (.str letters) M
def t_law_of : DS := (dRet (dBin rIxD (dVar 1) (dCall sp_law_pull (dCons (dVar 0) (dCons (dUn rLenD (dVar 1)) dNil)))))
def t_law_letters : DS := (dRet (dC (.str "abcdefghijklmnopqrstuvwxyz")))
theorem resD_upd_ne {M : Mp} {p : Addr} {o : MO} {d : D} (h : d ≠ .ref p) : resD (mupd M p o) d = resD M d := by
  unfold resD
  split
  · rename_i q
    rw [mupd_ne (fun e => h (by rw [e]))]
  · rfl
theorem r_law_of (ds : List D) (M : Mp) (Q : DK) (E : DX) (hl : ds.length = 2) (h : sp_law_of ds M Q E) : t_law_of { nx := fun _ M' => Q .non M', rt := Q } (startD ["_law_bag_here", "_law_things"] ds) M := by
  obtain ⟨p, b, d, xs, rfl, hM, hb, h0, h1, hd, q⟩ := h
  walk_at "w"
  rcases hd with ⟨hd, hne⟩ | rfl | ⟨x, rfl, rfl⟩
  · rw [hd]
    walk_at "w"
    refine ⟨p, b, xs.length, rfl, hM, hb, by omega, by omega, fun r b' hb' r0 r1 => ?_⟩
    walk_at "w"
    rw [resD_upd_ne hne, hd]
    walk_at "w"
    obtain ⟨x, hx, hm⟩ := atI_in r0 r1
    rw [hx]
    exact q x b' hb' hm
  · refine ⟨p, b, xs.length, rfl, hM, hb, by omega, by omega, fun r b' hb' r0 r1 => ?_⟩
    walk_at "w"
    obtain ⟨x, hx, hm⟩ := atI_in r0 r1
    rw [hx]
    exact q x b' hb' hm
  · have hl2 : (signs x).length = x.length := by unfold signs Str.length; simp
    refine ⟨p, b, x.length, rfl, hM, hb, by omega, by omega, fun r b' hb' r0 r1 => ?_⟩
    walk_at "w"
    obtain ⟨c, hx, hm⟩ := atI_in (xs := x.cps.toList) r0 (by simpa [Str.length] using r1)
    rw [hx]
    exact q (sgn c) b' hb' (List.mem_map.mpr ⟨c, hm, rfl⟩)
theorem r_law_letters (ds : List D) (M : Mp) (Q : DK) (E : DX) (hl : ds.length = 0) (h : sp_law_letters ds M Q E) : t_law_letters { nx := fun _ M' => Q .non M', rt := Q } (startD [] ds) M := by
  obtain ⟨rfl, q⟩ := h
  exact q
mutual
/-- the same datum -/
def sameD : D → D → Bool
  | .non, .non => true
  | .bl a, .bl b => a == b
  | .int a, .int b => a == b
  | .str a, .str b => a == b
  | .tup a, .tup b => sameDs a b
  | .lst a, .lst b => sameDs a b
  | _, _ => false
def sameDs : List D → List D → Bool
  | [], [] => true
  | a :: as, b :: bs => sameD a b && sameDs as bs
  | _, _ => false
end
/-- promised up to the depth n -/
def sp_law_like : Nat → SpD
  | 0 => fun _ _ _ _ => False
  | n + 1 => fun ds M Q _ => ∃ d e, ds = [d, e] ∧ D.le n d = true ∧ D.le n e = true ∧ n ≤ 50 ∧ Q (.bl (sameD d e)) M
def t_law_like_1 (n : Nat) : DS := (dRet (dAndV (dBin (rEqDD id) (dUn rLenD (dVar 0)) (dUn rLenD (dVar 1))) (dUn rAllD (dLc (iZipD (dCons (dVar 0) (dCons (dVar 1) dNil))) (.tup [(.name 2), (.name 3)]) dYes (dCall (sp_law_like n) (dCons (dVar 2) (dCons (dVar 3) dNil))) [2, 3]))))
def t_law_like_2 (n : Nat) : DS := (dRet (dAndV (dBin (rEqDD id) (dIsi .str (dVar 0)) (dIsi .str (dVar 1))) (dBin (rEqDD id) (dVar 0) (dVar 1))))
def t_law_like_3 (n : Nat) : DS := (dSeq (dIfS (dOr (dTest (dBin (rEqDD not) (dIsi .bool (dVar 0)) (dIsi .bool (dVar 1)))) (dTest (dBin (rEqDD not) (dIsi .int (dVar 0)) (dIsi .int (dVar 1))))) (dRet (dC (.bl false))) dNext)
    (t_law_like_2 n))
def t_law_like_4 (n : Nat) : DS := (dSeq (dIfS (dOr (dTest (dBin (rIsD id) (dVar 0) (dC .non))) (dTest (dBin (rIsD id) (dVar 1) (dC .non)))) (dRet (dAndV (dBin (rIsD id) (dVar 0) (dC .non)) (dBin (rIsD id) (dVar 1) (dC .non)))) dNext)
    (t_law_like_3 n))
def t_law_like (n : Nat) : DS := (dSeq (dIfS (dTru (dIsi2 .list .tuple (dVar 1))) (dSeq (dIfS (dOr (dTest (dBin (rEqDD not) (dIsi .list (dVar 0)) (dIsi .list (dVar 1)))) (dTest (dBin (rEqDD not) (dIsi .tuple (dVar 0)) (dIsi .tuple (dVar 1))))) (dRet (dC (.bl false))) dNext)
    (t_law_like_1 n)) dNext)
    (t_law_like_4 n))
theorem les_at : ∀ {n : Nat} {ds : List D}, D.les n ds = true → ∀ d ∈ ds, D.le n d = true
  | n, d :: ds, h, g, hg => by
    simp only [D.les, Bool.and_eq_true] at h
    rcases List.mem_cons.mp hg with rfl | hg
    · exact h.1
    · exact les_at h.2 g hg
theorem les_of : ∀ {n : Nat} {ds : List D}, (∀ d ∈ ds, D.le n d = true) → D.les n ds = true
  | n, [], _ => rfl
  | n, d :: ds, h => by
    simp only [D.les, Bool.and_eq_true]
    exact ⟨h d List.mem_cons_self, les_of fun g hg => h g (List.mem_cons_of_mem _ hg)⟩
theorem same_zip : ∀ {a b : List D}, a.length = b.length → ((List.zipWith (fun x y => D.tup [x, y]) a b).map fun z => match z with
    | .tup [x, y] => sameD x y
    | _ => false).all id = sameDs a b
  | [], [], _ => rfl
  | x :: a, y :: b, h => by
    have := same_zip (a := a) (b := b) (by simpa using h)
    simp only [List.zipWith_cons_cons, List.map_cons, List.all_cons, id_eq, sameDs, ← this]
  | [], _ :: _, h => by simp at h
  | _ :: _, [], h => by simp at h
theorem sameDs_len : ∀ {a b : List D}, a.length ≠ b.length → sameDs a b = false
  | [], [], h => absurd rfl h
  | [], _ :: _, _ => rfl
  | _ :: _, [], _ => rfl
  | x :: a, y :: b, h => by
    simp only [sameDs]
    rw [sameDs_len (a := a) (b := b) (by simpa using h), Bool.and_false]
def pairSame (z : D) : Bool := match z with
  | .tup [x, y] => sameD x y
  | _ => false
theorem r_like_seq (n : Nat) (a b : List D) (d e : D) (M : Mp) (Q : DK) (nx : DEnv → Mp → Prop) (hn : n ≤ 49) (la : D.les n a = true) (lb : D.les n b = true) (hd : (d = .lst a ∧ e = .lst b) ∨ (d = .tup a ∧ e = .tup b))
    (q : Q (.bl (sameDs a b)) M) : t_law_like_1 (n + 1) { nx := nx, rt := Q } [some d, some e, none, none] M := by
  have key : ∀ zs, zs = List.zipWith (fun x y => D.tup [x, y]) a b → a.length = b.length → dLcL (.tup [(.name 2), (.name 3)]) dYes (dCall (sp_law_like (n + 1)) (dCons (dVar 2) (dCons (dVar 3) dNil))) (wipeD [some d, some e, none, none] [2, 3]) zs [] M (fun ds M2 => rAllD (.lst ds) M2 Q) := by
    rintro zs rfl hl
    refine lc_map (fun z => .bl (pairSame z)) (fun z hz K1 K2 hK => ?_) ?_
    · obtain ⟨i, hi⟩ := List.getElem?_of_mem hz
      obtain ⟨x, y, h1, h2, rfl⟩ := zip_at hi
      walk_at "w"
      exact ⟨x, y, rfl, les_at la x (List.mem_of_getElem? h1), les_at lb y (List.mem_of_getElem? h2), by omega, hK⟩
    · have e1 : (List.zipWith (fun x y => D.tup [x, y]) a b).map (fun z => D.bl (pairSame z)) = ((List.zipWith (fun x y => D.tup [x, y]) a b).map pairSame).map D.bl := by rw [List.map_map]; rfl
      rw [e1]
      walk_at "w"
      rw [asBls_map]
      have e2 : ((List.zipWith (fun x y => D.tup [x, y]) a b).map pairSame).all id = sameDs a b := same_zip hl
      show Q (.bl (((List.zipWith (fun x y => D.tup [x, y]) a b).map pairSame).all id)) M
      rw [e2]
      exact q
  rcases hd with ⟨rfl, rfl⟩ | ⟨rfl, rfl⟩
  all_goals
    walk_at "w"
    refine ⟨⟨rfl, rfl⟩, ?_⟩
    walk_at "w"
    refine brn_by (fun hc => ?_) fun hc => ?_
    · have hl : a.length = b.length := by
        have h1 : ((a.length : Int) == (b.length : Int)) = true := hc
        exact Int.ofNat.inj (eq_of_beq h1)
      walk_at "w"
      exact key _ rfl hl
    · have hl : a.length ≠ b.length := by
        intro h
        have h1 : ((a.length : Int) == (b.length : Int)) = false := hc
        simp [h] at h1
      rw [sameDs_len hl] at q
      have h1 : ((a.length : Int) == (b.length : Int)) = false := hc
      show Q (.bl (id (eqD (.int a.length) (.int b.length)))) M
      rw [eqD_int, h1]
      exact q
theorem r_law_like (n : Nat) (ds : List D) (M : Mp) (Q : DK) (E : DX) (hl : ds.length = 2) (h : sp_law_like (n + 1) ds M Q E) : t_law_like n { nx := fun _ M' => Q .non M', rt := Q } (startD ["_law_found", "_law_due", "_law_one", "_law_other"] ds) M := by
  obtain ⟨d, e, rfl, ld, le, hn, q⟩ := h
  cases e <;> cases d <;> first
    | (exfalso; cases n <;> simp [D.le] at ld; done)
    | (exfalso; cases n <;> simp [D.le] at le; done)
    | skip
  all_goals
    walk_at "w"
    try refine ⟨⟨rfl, rfl⟩, ?_⟩
    try walk_at "w"
    try refine ⟨⟨rfl, rfl⟩, ?_⟩
    try walk_at "w"
    first
      | exact q
      | (refine ⟨⟨rfl, rfl⟩, ?_⟩; walk_at "w"; exact q)
      | (refine ⟨⟨rfl, rfl⟩, ?_⟩; walk_at "w"; refine ⟨⟨rfl, rfl⟩, ?_⟩; walk_at "w"; exact q)
      | (refine ⟨⟨rfl, rfl⟩, ?_⟩; walk_at "w"; refine ⟨⟨rfl, rfl⟩, ?_⟩; walk_at "w"; refine ⟨⟨rfl, rfl⟩, ?_⟩; walk_at "w"; exact q)
      | (refine ⟨⟨by cases n <;> rfl, by cases n <;> rfl⟩, ?_⟩; exact q)
      | (cases n with
        | zero => simp [D.le] at ld
        | succ m => exact r_like_seq m _ _ _ _ M Q _ (by omega) (by simpa [D.le] using ld) (by simpa [D.le] using le) (.inr ⟨rfl, rfl⟩) q)
      | (cases n with
        | zero => simp [D.le] at ld
        | succ m => exact r_like_seq m _ _ _ _ M Q _ (by omega) (by simpa [D.le] using ld) (by simpa [D.le] using le) (.inl ⟨rfl, rfl⟩) q)
theorem z_law_like (ds : List D) (M : Mp) (Q : DK) (E : DX) (h : sp_law_like 0 ds M Q E) : False := h
end L3
set_option Elab.async false
set_option linter.all false
set_option maxRecDepth 100000
set_option maxHeartbeats 1000000
set_option Elab.async false
set_option linter.all false
set_option maxRecDepth 100000
set_option maxHeartbeats 1000000
set_option Elab.async false
set_option linter.all false
set_option maxRecDepth 100000
set_option maxHeartbeats 1000000
namespace L3
open PySem PySem.Spec PyProof.Rows L2
structure InitKOk (P : Program) (w : World) (K : PySem.W.Frag) (mg : Str → Option Value) (base : Heap) (k : Nat) (c : Cl) (qual : Str) (st : Stmt) (ps : List Str) (kwd : List (Str × D)) (sp : SpD) : Prop where
  ex : ∃ f fd kws, FnOk P w K mg base (L2N.CX P w) k f fd ps (upSp K ps.length sp) ∧ FunD K "__init__" qual (defArgs st) (defBody st) (defScope st) [] kws f fd ∧ Mk K (He.ga K c.nm) f ∧ mg c.nm = some (.ref (He.ga K c.nm)) ∧ kws.map (·.1) = kwd.map (·.1) ∧ ∀ F, Reps K F (kwd.map (·.2)) (kws.map (·.2))
/-- made with n values and the keywords ks; g puts them, and the lacking ones' data, in the parameters' order -/
structure MkKOk (P : Program) (w : World) (K : PySem.W.Frag) (mg : Str → Option Value) (base : Heap) (k : Nat) (c : Cl) (n : Nat) (ks : List Str) (g : List D → List D → List D) (sp : SpD) : Prop where
  ex : ∃ f fd ps gv gV np, FnOk P w K mg base (L2N.CX P w) k f fd ps (upSp K np sp) ∧ Mk K (He.ga K c.nm) f ∧ mg c.nm = some (.ref (He.ga K c.nm)) ∧ KBn K fd ps (n + 1) ks gv gV ∧
    ∀ F ds vs es zs, Reps K F ds vs → Reps K F es zs → ds.length = n + 1 → es.length = ks.length → Reps K F (g ds es) (gV vs zs) ∧ (g ds es).length = np
theorem MkKOk.mono {P : Program} {w : World} {K : PySem.W.Frag} {mg : Str → Option Value} {base : Heap} {j k : Nat} {c : Cl} {n : Nat} {ks : List Str} {g : List D → List D → List D} {sp : SpD} (d : MkKOk P w K mg base j c n ks g sp) (h : j ≤ k) : MkKOk P w K mg base k c n ks g sp := by
  obtain ⟨f, fd, ps, gv, gV, np, a, b⟩ := d.ex
  exact ⟨f, fd, ps, gv, gV, np, a.mono h, b⟩
/-- from the __init__: ms the keyword-only parameters that lack -/
theorem InitKOk.make {P : Program} {w : World} {K : PySem.W.Frag} {mg : Str → Option Value} {base : Heap} {k : Nat} {c : Cl} {qual : Str} {st : Stmt} {ps : List Str} {kwd : List (Str × D)} {sp : SpD} (o : InitKOk P w K mg base k c qual st ps kwd sp) (n : Nat) (ks : List Str) (is : List Nat)
    (g : {α : Type} → List α → List α → List α → List α) (gD : List D → List D → List D) (hne : kwd ≠ []) (his : ∀ i ∈ is, i < kwd.length) (hgD : ∀ ds es, gD ds es = g ds (is.map fun i => ((kwd.map (·.2))[i]?).getD .non) es)
    (hlen : ∀ ds es : List D, ds.length = n + 1 → es.length = ks.length → (gD ds es).length = ps.length)
    (hrel : ∀ {vs mz zs : List V} {us mv ws : List Value}, Vals vs us → Vals mz mv → Vals zs ws → Vals (g vs mz zs) (g us mv ws))
    (hrep : ∀ (K : PySem.W.Frag) (F : Hp) {ds ms es : List D} {vs mz zs : List V}, Reps K F ds vs → Reps K F ms mz → Reps K F es zs → Reps K F (g ds ms es) (g vs mz zs))
    (h : ∀ (D : Addr) (doc pm : Value) (an : Option Addr) (cdv ct : Value) (us mv ws : List Value), us.length = n + 1 → mv.length = is.length → ws.length = ks.length →
      KwChain D ((is.map fun i => ((kwd.map (·.1))[i]?).getD Str.empty).zip mv) (bindArgs (PySem.W.fnOf "__init__" qual (defArgs st) (defBody st) (defScope st) .none (.ref D) doc pm an cdv ct) ⟨us, ks.zip ws⟩) (ps.zip (g us mv ws))) :
    MkKOk P w K mg base k c n ks gD sp := by
  obtain ⟨f, fd, kws, G, F, hm, hg, hn, hd⟩ := o.ex
  have lk : kws.length = kwd.length := by have := congrArg List.length hn; simpa using this
  have kne : kws ≠ [] := fun e => hne (List.eq_nil_of_length_eq_zero (by rw [← lk, e]; rfl))
  have at_ : ∀ i, i < kwd.length → kws[i]? = some ((kws[i]?).getD (Str.empty, V.non)) := fun i hi => by
    rw [List.getElem?_eq_getElem (show i < kws.length by omega)]; rfl
  obtain ⟨mv, hb⟩ := F.kbinds0 (ps := ps) (n + 1) ks (is.map fun i => (kws[i]?).getD (Str.empty, V.non)) g kne (fun q hq => by
    obtain ⟨i, hi, rfl⟩ := List.mem_map.mp hq
    exact List.mem_of_getElem? (at_ i (his i hi))) hrel fun D doc pm an cdv ct us mv ws l1 l2 l3 => by
      have e : (is.map fun i => (kws[i]?).getD (Str.empty, V.non)).map (·.1) = is.map fun i => ((kwd.map (·.1))[i]?).getD Str.empty := by
        rw [List.map_map]
        refine List.map_congr_left fun i hi => ?_
        rw [← hn, List.getElem?_map, at_ i (his i hi)]; rfl
      rw [e]
      exact h D doc pm an cdv ct us mv ws l1 (by simpa using l2) l3
  refine ⟨f, fd, ps, _, _, ps.length, G, hm, hg, hb, fun F' ds vs es zs r1 r2 l1 l2 => ⟨?_, hlen ds es l1 l2⟩⟩
  rw [hgD]
  refine hrep K F' r1 ?_ r2
  have all := hd F'
  clear hb hgD hlen h
  induction is with
  | nil => exact rfl
  | cons i is ih =>
    have hi := his i List.mem_cons_self
    have e1 : (kwd.map (·.2))[i]? = some (((kwd.map (·.2))[i]?).getD .non) := by
      rw [List.getElem?_eq_getElem (by rw [List.length_map]; exact hi)]; rfl
    obtain ⟨v, hv, rv⟩ := all.get e1
    refine ⟨_, _, rfl, ?_, ih fun j hj => his j (List.mem_cons_of_mem _ hj)⟩
    have e2 : ((kws[i]?).getD (Str.empty, V.non)).2 = v := by
      rw [List.getElem?_map, at_ i hi] at hv
      exact Option.some.inj hv
    show Rep K F' _ ((kws[i]?).getD (Str.empty, V.non)).2
    rw [e2]; exact rv
end L3
set_option Elab.async false
set_option linter.all false
set_option maxRecDepth 100000
set_option maxHeartbeats 1000000
namespace L3
open PySem PySem.Spec PyProof.Rows L2
abbrev DEX := DEnv → Mp → DK → DX → Prop
abbrev DSX := DEnds → DX → DEnv → Mp → Prop
def upX (K : PySem.W.Frag) (E : XK) (t : DEX) : TE := fun σ H Q => ∃ R F env M Qd Ed, At K R F M H ∧ EnvR K F σ env ∧ t env M Qd Ed ∧ KD K R F Qd Q ∧ KX K R F Ed E
def upSX (K : PySem.W.Frag) (E : XK) (t : DSX) : TS := fun D σ H => ∃ R F env M Dd Ed, At K R F M H ∧ EnvR K F σ env ∧ t Dd Ed env M ∧ KE K R F Dd D ∧ KX K R F Ed E
abbrev PDEX (X : Cx) (E : XK) (e : Expr) (t : DEX) : Prop := PE X e (upX X.K E t)
abbrev PDSX (X : Cx) (E : XK) (st : Stmt) (t : DSX) : Prop := PS X st (upSX X.K E t)
abbrev PDSsX (X : Cx) (E : XK) (st : List Stmt) (t : DSX) : Prop := PSs X st (upSX X.K E t)
theorem pa_nox {X : Cx} {es : List Expr} {t : TA} (h : PA X.nox es t) : PA X es t := ⟨fun pos pins s σ H Q I hw =>
  wpAny_mono (h.run pos pins s σ H Q (I.wish _) hw) (fun us s' ⟨vs, H', I', r, q⟩ => ⟨vs, H', I'.unwish, r, q⟩) fun e s' z => z.elim⟩
section
variable {X : Cx} {E : XK} {st : Stmt} {rest : List Stmt} {e : Expr} {pos : Pos}
def xS (t : DS) : DSX := fun D _ env M => t D env M
theorem pssx_of {ss : List Stmt} {t : DS} (h : PDSs X.nox ss t) : PDSsX X E ss (xS t) := pss_imp h.nox fun D σ H ⟨R, F, env, M, Dd, Ed, a, en, h, k, kx⟩ => ⟨R, F, env, M, Dd, a, en, h, k⟩
theorem pssx_one {t : DSX} (h1 : PDSX X E st t) : PDSsX X E [st] t := pss_one h1
def xIf (c : DT) (t u : DSX) : DSX := fun D E env M => c env M fun b M1 => brn b (t D E env M1) (u D E env M1)
theorem psx_if {c : Expr} {a b : List Stmt} {tc : DT} {t u : DSX} (hc : PDT X.nox c tc) (ha : PDSsX X E a t) (hb : PDSsX X E b u) : PDSX X E (.If c a b pos) (xIf tc t u) :=
  ps_imp (ps_if hc.nox ha hb) fun D σ H ⟨R, F, env, M, Dd, Ed, a, en, h, k, kx⟩ => ⟨R, F, env, M, _, a, en, h, fun F1 H1 M1 b s1 a1 q1 => by
    cases b with
    | true => rw [brn_t] at q1; rw [if_pos rfl]; exact ⟨R, F1, env, M1, Dd, Ed, a1, en.mono s1, q1, k.mono s1, kx.mono s1⟩
    | false => rw [brn_f] at q1; rw [if_neg Bool.false_ne_true]; exact ⟨R, F1, env, M1, Dd, Ed, a1, en.mono s1, q1, k.mono s1, kx.mono s1⟩⟩
abbrev TakeX (X : Cx) (E : XK) : Prop := L2N.Takes X fun cls d _ H => E cls d H
theorem passX (tk : TakeX X E) : Passes (L2N.CX X.prog X.w) X E := L2N.passes_call tk fun cls d σ H h => h
def xCall (sp : SpD) (t : DA) : DEX := fun env M Q E => t env M fun ds M1 => sp ds M1 Q E
theorem pdx_call {e : Expr} {es : List Expr} {t : DA} {p : Pos} {k : Nat} {x : Str} {n : Nat} {sp : SpD} (tk : TakeX X E) (d : DefOk X.prog X.w X.K X.mg X.base k x n sp) (hr : Room k X.A) (ha : PDA X.nox (e :: es) t) (hn : (e :: es).length = n := by rfl) (hg : Gl X x := by rfl)
    (hdb : (x == ("__debug__" : Str)) = false := by decide) (he : starEach (e :: es) X.env = (false, eval e X.env) :: starEach es X.env := by rfl) (hpl : (backTo pos (starEach es X.env)).any (·.1) = false := by rfl) :
    PDEX X E (.Call (.Name x p) (e :: es) [] pos) (xCall sp t) := by
  obtain ⟨f, fd, ps, F, hl, hm, hk, hb⟩ := d.ex
  refine pe_imp (pe_call F hr hg hm hk hb .nil (passX tk) (pa_nox ha) hdb he hpl) fun σ H Q ⟨R, F, env, M, Qd, Ed, a, en, h, k, kx⟩ => ⟨R, F, env, M, _, a, en, h, fun F1 H1 M1 ds vs s1 a1 r1 l1 q1 => ?_⟩
  show upSp X.K n sp (vs ++ []) H1 Q E
  rw [List.append_nil]
  exact ⟨R, F1, M1, ds, Qd, Ed, a1, r1, by rw [l1, hn], q1, k.mono s1, kx.mono s1⟩
end
abbrev bodyX (P : Program) (w : World) (K : PySem.W.Frag) (mg : Str → Option Value) (base : Heap) (N : List Str) (x : Str) (st : Stmt) (f : Addr) (cdv : Value) (A : Around) (outer : List PySem.Env) (s : Shared) (H : Hp) (E : XK) : Cx :=
  cxOf (L2N.CX P w) P w K mg base N x (defScope st) f cdv A outer s H E
theorem takes_body {P : Program} {w : World} {K : PySem.W.Frag} {mg : Str → Option Value} {base : Heap} {N : List Str} {x : Str} {st : Stmt} {f : Addr} {cdv : Value} {A : Around} {outer : List PySem.Env} {s : Shared} {H : Hp} {E : XK} : TakeX (bodyX P w K mg base N x st f cdv A outer s H E) E :=
  L2N.takes_of rfl rfl rfl rfl
theorem def_okX {P : Program} {w : World} {K : PySem.W.Frag} {mg : Str → Option Value} {base : Heap} {k : Nat} {x : Str} {st : Stmt} {N ps : List Str} {sp : SpD} {t : DSX} (d : DefAt K mg x st) (S : FnScope N ps (defScope st))
    (bind : ∀ (kV doc pm : Value) (an : Option Addr) (cdv ct : Value) (us : List Value), us.length = ps.length → bindArgs (PySem.W.fnOf x x (defArgs st) (defBody st) (defScope st) .none kV doc pm an cdv ct) ⟨us, []⟩ = pure (ps.zip us))
    (hb : ∀ f cdv A outer s H E, Room k (A.deeper (envOfC x (defScope st) s.heap.objs.size f cdv)) → PDSsX (bodyX P w K mg base N x st f cdv A outer s H E) E (defBody st) t)
    (hr : ∀ ds M Q E, ds.length = ps.length → sp ds M Q E → t { nx := fun _ M' => Q .non M', rt := Q } E (startD N ds) M) : DefOk P w K mg base (k + 1) x ps.length sp := by
  obtain ⟨f, fd, F, hm⟩ := d.ex
  refine ⟨f, fd, ps, F.ok S (fun vs H Q E ⟨R, F, M, ds, Qd, Ed, _, r, hl, _⟩ => by rw [← r.length, hl]) (fun cdv A outer s H vs Q E hroom h => ?_), rfl, hm, F.kp, F.bindsN bind⟩
  obtain ⟨R, F', M, ds, Qd, Ed, a, r, hl, hsp, kd, kx⟩ := h
  exact ⟨_, hb f cdv A outer s H E hroom, R, F', startD N ds, M, { nx := fun _ M' => Qd .non M', rt := Qd }, Ed, a, start_env r, hr ds M Qd Ed hl hsp, ⟨fun F1 H1 M1 env1 σ1 s1 a1 e1 q => kd F1 H1 M1 .non .non s1 a1 rfl q, kd, fun _ _ _ _ _ _ _ _ q => q.elim, fun _ _ _ _ _ _ _ _ q => q.elim⟩, kx⟩
end L3
set_option Elab.async false
set_option linter.all false
set_option maxRecDepth 100000
set_option maxHeartbeats 4000000
namespace L3
open PySem PySem.Spec PyProof.Rows L2 ClX
/-- the built-in class below -/
inductive Bs where
  | ve | le | ie
  deriving DecidableEq
namespace Bs
abbrev nm : Bs → String
  | ve => "ValueError" | le => "LookupError" | ie => "IndexError"
abbrev new : Bs → String
  | ve => "ValueError.__new__" | le => "LookupError.__new__" | ie => "IndexError.__new__"
abbrev ini : Bs → String
  | ve => "ValueError.__init__" | le => "LookupError.__init__" | ie => "IndexError.__init__"
abbrev tl : Bs → List Value
  | ve => [.type "ValueError", .type "Exception", .type "BaseException", .type "object"]
  | le => [.type "LookupError", .type "Exception", .type "BaseException", .type "object"]
  | ie => [.type "IndexError", .type "LookupError", .type "Exception", .type "BaseException", .type "object"]
theorem base : ∀ b : Bs, ExcBaseFacts b.nm b.new b.ini b.tl
  | ve => PySem.F.excBase_ValueError | le => PySem.F.excBase_LookupError | ie => PySem.F.excBase_IndexError
theorem pass (self : Value) : ∀ b : Bs, refuseLoop self "__setattr__" b.tl = pure ()
  | ve => PySem.F.store_ValueError.passes self | le => PySem.F.store_LookupError.passes self | ie => PySem.F.store_IndexError.passes self
theorem obj : ∀ b : Bs, b.tl.contains (.type "object") = true
  | ve => by decide +kernel | le => by decide +kernel | ie => by decide +kernel
/-- own classes, then the built-in one's -/
def Refs (b : Bs) (l : List Value) : Prop := ∃ cs : List Addr, l = cs.map Value.ref ++ b.tl
def refs (b : Bs) : List Value → Bool
  | .ref _ :: r => refs b r
  | l => l == b.tl
theorem refs_ok (b : Bs) : ∀ l : List Value, refs b l = true → Refs b l
  | .ref c :: r, e => let ⟨cs, h⟩ := refs_ok b r e; ⟨c :: cs, by rw [h]; rfl⟩
  | [], e => ⟨[], beq_iff_eq.mp e⟩
  | .none :: _, e => ⟨[], beq_iff_eq.mp e⟩
  | .ellipsis :: _, e => ⟨[], beq_iff_eq.mp e⟩
  | .notImplemented :: _, e => ⟨[], beq_iff_eq.mp e⟩
  | .bool _ :: _, e => ⟨[], beq_iff_eq.mp e⟩
  | .int _ _ :: _, e => ⟨[], beq_iff_eq.mp e⟩
  | .float _ _ :: _, e => ⟨[], beq_iff_eq.mp e⟩
  | .str _ _ :: _, e => ⟨[], beq_iff_eq.mp e⟩
  | .bytes _ _ :: _, e => ⟨[], beq_iff_eq.mp e⟩
  | .type _ :: _, e => ⟨[], beq_iff_eq.mp e⟩
  | .builtin _ :: _, e => ⟨[], beq_iff_eq.mp e⟩
theorem Refs.cons {b : Bs} {l : List Value} (h : Refs b l) (c : Addr) : Refs b (.ref c :: l) := let ⟨cs, e⟩ := h; ⟨c :: cs, by rw [e]; rfl⟩
theorem Refs.pass {b : Bs} {l : List Value} (h : Refs b l) (self : Value) : refuseLoop self "__setattr__" l = pure () := by
  obtain ⟨cs, rfl⟩ := h
  induction cs with
  | nil => exact b.pass self
  | cons c cs ih => exact (refuseLoop_ref _ _ _ _).trans ih
theorem Refs.has {b : Bs} {l : List Value} (h : Refs b l) (Y : String) : l.contains (.type Y) = b.tl.contains (.type Y) := by
  obtain ⟨cs, rfl⟩ := h
  induction cs with
  | nil => rfl
  | cons c cs ih =>
    show (Value.ref c :: (cs.map Value.ref ++ b.tl)).contains (.type Y) = _
    rw [List.contains_cons, ih]; rfl
theorem Refs.some {b : Bs} {l : List Value} (h : Refs b l) : l.isEmpty = false := by
  obtain ⟨cs, rfl⟩ := h
  cases cs with
  | nil => cases b <;> rfl
  | cons c cs => rfl
end Bs
section
open Builtin Builtin.ObjectAttr
variable {b : Bs} {prog : Program} {w : World} {A : Around} {R : Result → Shared → Prop} {hp : Heap} {gs : Array GenState} {dr : Drawn} {tn : Nat} {osn : OsState} {K : PySem.W.Frag} {nf : Str} {tok : Tok} {v : Value} {x C dx : Addr} {fv : Array Value} {cd : ClassData}
abbrev ndo (C : Addr) (fv : Array Value) : Obj := { cls := .ref C, data := .fields fv }
abbrev wdo (C dx : Addr) (fv : Array Value) : Obj := { cls := .ref C, dict := some dx, data := .fields fv }
/-- e.nf = v, e without its dict -/
theorem osaN (X : K.In hp) (hx : hp.get? x = some (ndo C fv)) (hcd : PySem.W.clsIn K C = some cd) (hm : b.Refs cd.mro) (hh : cd.hasDict = true) (ha : PySem.W.findIn K (.ref C) nf = some none)
    (hq : ∀ h1 t1 dx, (∀ c o, c ≠ x → hp.get? c = some o → h1.get? c = some o) → hp.objs.size ≤ dx → dx ≠ x → h1.get? x = some (wdo C dx fv) → h1.Ns1 dx (fun y => if y = nf then some v else none) → R (.ok (.ret .none)) ⟨h1, gs, dr, t1, osn⟩) :
    codeAny (model prog w) A (.call (.builtin "object.__setattr__") ⟨[.ref x, .str nf tok, v], []⟩) R ⟨hp, gs, dr, tn, osn⟩ := by
  have J : PySem.W.InstAt hp x (ndo C fv) C none := ⟨hx, rfl, rfl, trivial⟩
  have S0 := PySem.F.store_object
  have nx : x ≠ hp.objs.size := Nat.ne_of_lt (Heap.lt_size hx)
  have io : PySem.W.Looks (model prog w) hp (isInstance (.ref x) (.type "object")) true := J.type.andThen (PySem.W.looks_mroIn X (by unfold PySem.W.mroIn; rw [hcd, Option.bind_some, if_neg (by rw [hm.some]; decide), hm.has, b.obj]))
  refine codeAny_call_builtin S0.slot.plain S0.entry (@PySem.W.check_slot (model prog w) _ _ ⟨hp, gs, dr, tn, osn⟩ "object.__setattr__" "object" "__setattr__" (.ref x) [.str nf tok, v] [] _ S0.kind S0.split io (S0.args (.ref x) (.str nf tok) v) ?_)
  have q1 : PySem.W.Looks (model prog w) hp (mroOf (.ref C)) cd.mro := (PySem.W.looks_clsIn X hcd).andThen .now
  have q2 : PySem.W.Looks (model prog w) hp (storeTaker? none) none := .now
  have q3 : PySem.W.Looks (model prog w) hp (classData C) cd := PySem.W.looks_clsIn X hcd
  rw [PySem.W.osa_eq, refuse_eq]
  refine wpAny_bind (wpAny_bind (J.type.at (wpAny_bind (q1.at ?_))))
  rw [hm.pass]
  refine wpAny_pure (wpAny_bind (J.type.at (wpAny_bind ((PySem.W.looks_findIn X ha).at (wpAny_bind (q2.at ?_))))))
  show wpAny _ _ (storeInOwnDict (.ref x) (.ref C) (.str nf tok) nf v false) _ _ _
  obtain ⟨c1, c2, c3, c4, c5, c6, c7, c8, c9, c10, c11⟩ := cd
  dsimp only at hh
  subst hh
  unfold storeInOwnDict ownDictForStores
  repeat (first | with_reducible refine HandSPX.store_in_new ?_ ?_ | with_reducible refine wpAny_loadPart_at hx ?_ | with_reducible refine q3.at ?_ | wp_step)
  · exact ⟨_, #[], _, (Heap.get?_update_ne _ _ _ _ nx.symm).trans (Heap.get?_push_at rfl rfl), rfl, fun e he => absurd he (by simp), fun _ => rfl⟩
  · intro h1 t1 hn1 hs
    have hx1 : (hp.push { cls := .type "dict", data := .dict #[] }).get? x = some (ndo C fv) := Heap.get?_push_of_some _ hx
    refine hq h1 t1 hp.objs.size (fun c o hc ho => ?_) (Nat.le_refl _) nx.symm ?_ hn1
    · exact (hs.2 c (Nat.ne_of_lt (Heap.lt_size ho))).trans ((Heap.get?_update_ne _ _ _ _ hc).trans (Heap.get?_push_of_some _ ho))
    · exact (hs.2 x nx).trans (Heap.get?_update_self _ hx1 rfl)
/-- e.nf = v, e with its dict -/
theorem osaO {m0 : Str → Option Value} {ns : List Str} (X : K.In hp) (hx : hp.get? x = some (wdo C dx fv)) (hns : hp.Ns1 dx m0) (hw : Within m0 ns) (hz : ns.length ≤ 1000) (hcd : PySem.W.clsIn K C = some cd) (hm : b.Refs cd.mro) (hh : cd.hasDict = true) (ha : PySem.W.findIn K (.ref C) nf = some none)
    (hq : ∀ h1 t1, (∀ c o, c ≠ dx → hp.get? c = some o → h1.get? c = some o) → h1.Ns1 dx (fun y => if y = nf then some v else m0 y) → R (.ok (.ret .none)) ⟨h1, gs, dr, t1, osn⟩) :
    codeAny (model prog w) A (.call (.builtin "object.__setattr__") ⟨[.ref x, .str nf tok, v], []⟩) R ⟨hp, gs, dr, tn, osn⟩ := by
  obtain ⟨oD, eD, pD, hoD, hdD, _⟩ := hns.count hw
  have J : PySem.W.InstAt hp x (wdo C dx fv) C (some oD) := ⟨hx, rfl, rfl, hoD⟩
  have S0 := PySem.F.store_object
  have io : PySem.W.Looks (model prog w) hp (isInstance (.ref x) (.type "object")) true := J.type.andThen (PySem.W.looks_mroIn X (by unfold PySem.W.mroIn; rw [hcd, Option.bind_some, if_neg (by rw [hm.some]; decide), hm.has, b.obj]))
  refine codeAny_call_builtin S0.slot.plain S0.entry (@PySem.W.check_slot (model prog w) _ _ ⟨hp, gs, dr, tn, osn⟩ "object.__setattr__" "object" "__setattr__" (.ref x) [.str nf tok, v] [] _ S0.kind S0.split io (S0.args (.ref x) (.str nf tok) v) ?_)
  have q1 : PySem.W.Looks (model prog w) hp (mroOf (.ref C)) cd.mro := (PySem.W.looks_clsIn X hcd).andThen .now
  have q2 : PySem.W.Looks (model prog w) hp (storeTaker? none) none := .now
  have q3 : PySem.W.Looks (model prog w) hp (classData C) cd := PySem.W.looks_clsIn X hcd
  rw [PySem.W.osa_eq, refuse_eq]
  refine wpAny_bind (wpAny_bind (J.type.at (wpAny_bind (q1.at ?_))))
  rw [hm.pass]
  refine wpAny_pure (wpAny_bind (J.type.at (wpAny_bind ((PySem.W.looks_findIn X ha).at (wpAny_bind (q2.at ?_))))))
  show wpAny _ _ (storeInOwnDict (.ref x) (.ref C) (.str nf tok) nf v false) _ _ _
  obtain ⟨c1, c2, c3, c4, c5, c6, c7, c8, c9, c10, c11⟩ := cd
  dsimp only at hh
  subst hh
  unfold storeInOwnDict ownDictForStores
  repeat (first | with_reducible refine PySem.OEX.store_in_old hns hw hz ?_ | with_reducible refine wpAny_loadPart_at hx ?_ | with_reducible refine q3.at ?_ | wp_step)
  intro h1 t1 hn1 hs
  exact hq h1 t1 (fun c o hc ho => (hs.2 c hc).trans ho) hn1
end
theorem typ_LE : typeOf (.type "LookupError") = pure (.type "type") := by kernel_rfl
theorem typ_IE : typeOf (.type "IndexError") = pure (.type "type") := by kernel_rfl
theorem Bs.typ : ∀ b : Bs, typeOf (.type b.nm) = pure (.type "type")
  | .ve => PySem.OEX.typ_VE | .le => typ_LE | .ie => typ_IE
/-- what the written part says of a class over b -/
structure OexB (K : PySem.W.Frag) (C : Addr) (b : Bs) : Prop where
  cls : ∃ nm q N bs bm sn sub ab col dd k0 k1 k2 k3 k5, K.lookup C = some (excClassObj nm q C N bs bm true sn sub ab col dd k0 k1 k2 k3 k5 b.new) ∧ b.Refs bm
  sa : PySem.W.findIn K (.ref C) "__setattr__" = some (some (.builtin "object.__setattr__"))
  exC : PySem.W.subIn K (.ref C) (.type "BaseException") = some true
  tyC : PySem.W.typeIn K (.ref C) = some (.type "type")
  kC : PySem.W.keepIn K (.ref C) = true
theorem OexB.cd {K : PySem.W.Frag} {C : Addr} {b : Bs} (T : OexB K C b) : ∃ cd, PySem.W.clsIn K C = some cd ∧ b.Refs cd.mro ∧ cd.hasDict = true := by
  obtain ⟨nm, q, N, bs, bm, sn, sub, ab, col, dd, k0, k1, k2, k3, k5, hC, hbm⟩ := T.cls
  exact ⟨{ name := nm, bases := bs, mro := .ref C :: bm, ns := N, qualname := q, hasDict := true, slotNames := sn, subclasses := sub, abstract := ab, collection := col, hasDel := false }, by unfold PySem.W.clsIn; rw [hC] <;> rfl, hbm.cons C, rfl⟩
section
variable {X : Cx} {pins : List (Addr × Obj)} {σ : L2.St} {H : Hp} {s : Shared} {a C dx : Addr} {f : Str} {y : V} {u : Value} {fs : List (Str × V)} {Q : Unit → Shared → Prop} {E : Value → Shared → Prop} {A : Around} {b : Bs}
theorem ostN (T : OexB X.K C b) (I : Inv X pins σ H s) (e : H a = some (exo a C none)) (no : PySem.W.findIn X.K (.ref C) f = some none) (ry : RelV y u)
    (h : ∀ dx s', H dx = none → dx ≠ a → Inv X pins σ (upd (upd H dx (exd dx [(f, y)])) a (exo a C (some dx))) s' → Q () s') : wpAny (model X.prog X.w) A (setAttr (.ref a) f u) Q E s := by
  obtain ⟨cd, hcl, hm, hd⟩ := T.cd
  obtain ⟨t1, ho⟩ := exo_at I.hok e
  obtain ⟨hp, gs, dr, tn, osn⟩ := s
  refine PySem.W.set_plain I.kIn (ox := ndo C #[.ref t1, .none, .none, .none, .bool false, .none]) (od := none) ⟨ho, rfl, rfl, trivial⟩ T.sa ?_
  refine osaN I.kIn ho hcl hm hd no (fun h1 t' dx kp dn dne hx hn => ?_)
  have fr : H dx = none := I.hok.fresh dn
  have n1 : ∀ {c : Addr} {o : Obj}, hp.get? c = some o → c ≠ dx := fun {c o} q => Nat.ne_of_lt (Nat.lt_of_lt_of_le (Heap.lt_size q) dn)
  have n2 : ∀ {c : Addr}, H c = none → c ≠ a := fun {c} n z => by
    rw [z, e] at n; cases n
  have U : Un X.fs [] H (upd (upd H dx (exd dx [(f, y)])) a (exo a C (some dx))) hp h1 := {
    keep := fun c o q n _ _ => kp c o (n2 n) q
    slot := fun c o q n _ _ => ⟨o.slots, kp c o (n2 n) q⟩
    free := fun c o q n _ => by rw [upd_ne (n2 n), upd_ne (n1 q)]; exact n
    there := fun c o q _ => by
      by_cases hc : c = a
      · exact ⟨_, by rw [hc]; exact hx⟩
      · exact ⟨o, kp c o hc q⟩
    tups := fun c xs q => by rw [upd_ne (at_ne e q exo_tup), upd_ne (L2.ne_of_none q fr)]; exact q
    frzs := fun c o z q => by rw [upd_ne (at_ne e q exo_frz), upd_ne (L2.ne_of_none q fr)]; exact q
    tbls := fun c ps q => ⟨#[], by rw [upd_ne (at_ne e q exo_tbl), upd_ne (L2.ne_of_none q fr), q]; simp⟩ }
  refine h dx _ fr dne (I.un (t' := t') U fun c o q => ?_)
  by_cases hc : c = a
  · subst hc
    rw [upd_same] at q; cases q
    exact exo_ok hx
  · rw [upd_ne hc] at q
    by_cases hd : c = dx
    · subst hd
      rw [upd_same] at q; cases q
      exact exd_ok hn (relO_put (fs := []) ry fun g => True.intro)
    · rw [upd_ne hd] at q
      refine (I.hok c o q).stay (fun i z hi r => kp i z ?_ r) (fun i hi => ?_) (fun i xs hi => ?_)
      · rcases hi with hi | hi
        · rw [hi]; exact hc
        · exact at_ne e hi exo_own
      · rw [upd_ne (at_ne e hi exo_own), upd_ne (L2.ne_of_none hi fr)]; exact hi
      · rw [upd_ne (at_ne e hi exo_tup), upd_ne (L2.ne_of_none hi fr)]; exact hi
theorem ostO (T : OexB X.K C b) (I : Inv X pins σ H s) (e : H a = some (exo a C (some dx))) (ed : H dx = some (exd dx fs)) (hl : fs.length ≤ 900) (no : PySem.W.findIn X.K (.ref C) f = some none) (ry : RelV y u)
    (h : ∀ s', Inv X pins σ (upd H dx (exd dx ((f, y) :: fs))) s' → Q () s') : wpAny (model X.prog X.w) A (setAttr (.ref a) f u) Q E s := by
  obtain ⟨cd, hcl, hm, hd⟩ := T.cd
  obtain ⟨t1, ho⟩ := exo_at I.hok e
  obtain ⟨mA, hns, rel⟩ := exd_at I.hok ed
  obtain ⟨hp, gs, dr, tn, osn⟩ := s
  obtain ⟨oD, _, _, hoD, _, _⟩ := hns.count (within_of rel)
  refine PySem.W.set_plain I.kIn (ox := wdo C dx #[.ref t1, .none, .none, .none, .bool false, .none]) (od := some oD) ⟨ho, rfl, rfl, hoD⟩ T.sa ?_
  refine osaO I.kIn ho hns (within_of rel) (by rw [List.length_map]; omega) hcl hm hd no (fun h1 t' kp hn => ?_)
  have ex : ∃ o, h1.get? dx = some o := let ⟨o, _, _, e', _⟩ := hn; ⟨o, e'⟩
  exact h _ (I.write (t' := t') (x := dx) (e := dx) (o := exd dx ((f, y) :: fs)) (by rw [ed]; exact True.intro) (.inl rfl) kp ex (exd_ok hn (relO_put ry rel)))
/-- the built-in __init__(self, ..): nothing of it is told -/
theorem oinitB {us : List Value} {Q : Value → Shared → Prop} (T : OexB X.K C b) (I : Inv X pins σ H s) (e : H a = some (exo a C none)) (hl : us.length ≤ sizeLine) (h : ∀ s', Inv X pins σ H s' → Q .none s') :
    wpAny (model X.prog X.w) A (call (.builtin b.ini) (.ref a :: us)) Q E s := by
  obtain ⟨nm, q, N, bs, bm, sn, sub, ab, col, dd, k0, k1, k2, k3, k5, hC, hbm⟩ := T.cls
  obtain ⟨t1, ho⟩ := exo_at I.hok e
  obtain ⟨hp, gs, dr, tn, osn⟩ := s
  refine wpAny_call (PySem.HandSPX.init_base b.base hbm.has (I.kIn _ _ hC) ho hl fun h1 t2 kp hx => ?_)
  have J := I.write (t' := tn) (x := a) (e := a) (o := exo a C none) (by rw [e]; exact True.intro) (.inl rfl) kp ⟨_, hx⟩ (exo_ok hx)
  have eu : upd H a (exo a C none) = H := by
    funext c
    by_cases hc : c = a
    · rw [hc, upd_same, e]
    · rw [upd_ne hc]
  rw [eu] at J
  exact h _ J
end
/-- B.__init__(self, ..), B the built-in class -/
def tBiI (K : PySem.W.Frag) (b : Bs) (ta : TA) : TE := fun σ H Q => ta σ H fun vs H1 => ∃ (a C : Addr) (ws : List V), vs = .ref a :: ws ∧ ws.length ≤ 1000 ∧ OexB K C b ∧ H1 a = some (exo a C none) ∧ Q .non H1
/-- self.f = e -/
def tOsb (K : PySem.W.Frag) (b : Bs) (f : Str) (to te : TE) : TS := fun D σ H => te σ H fun y H1 => to σ H1 fun x H2 => ∃ a C : Addr, x = .ref a ∧ OexB K C b ∧ PySem.W.findIn K (.ref C) f = some none ∧
  ((H2 a = some (exo a C none) ∧ ∀ dx, H2 dx = none → dx ≠ a → D.nx σ (upd (upd H2 dx (exd dx [(f, y)])) a (exo a C (some dx)))) ∨
    ∃ (dx : Addr) (fs : List (Str × V)), H2 a = some (exo a C (some dx)) ∧ H2 dx = some (exd dx fs) ∧ fs.length ≤ 900 ∧ D.nx σ (upd H2 dx (exd dx ((f, y) :: fs))))
section
variable {X : Cx} {o e : Expr} {es : List Expr} {to te : TE} {ta : TA} {f : Str} {p p' p1 p2 pos : Pos} {b : Bs}
/-- the built-in class's own __init__, found -/
def Bs.Finds (b : Bs) (K : PySem.W.Frag) : Prop := PySem.W.findCls K (.type b.nm) (.type "type") "__init__" = some (.val (.builtin b.ini))
theorem pe_viinit {pl : Sem Bool} (hg : Gl X "ValueError") (hm : X.mg "ValueError" = none) (vV : Bs.ve.Finds X.K) (ha : PA X (e :: es) ta)
    (hc : eval (.Call (.Attribute (.Name "ValueError" p1) "__init__" p2) (e :: es) [] pos) X.env = (do
      let ov ← eval (.Name "ValueError" p1) X.env
      standAt p2.atName
      let (f, first) ← holding [ov] (getMethod ov "__init__" pl)
      callWith pos f first (backTo pos (starEach (e :: es) X.env)) (backToKw pos (keywordEach [] X.env))) := by rfl)
    (he : starEach (e :: es) X.env = (false, eval e X.env) :: starEach es X.env := by rfl) (hpl : (backTo pos (starEach es X.env)).any (·.1) = false := by rfl) :
    PE X (.Call (.Attribute (.Name "ValueError" p1) "__init__" p2) (e :: es) [] pos) (tBiI X.K .ve ta) := by
  refine ⟨fun pins s σ H Q I h => ?_⟩
  refine PySem.W.methodCall_KW (ld_blt I hg hm PyProof.Rows.Boot.«ValueError» ?_ (by decide) (by decide)) hc
  obtain ⟨m, fr⟩ := I.fr
  refine PySem.W.method_type fr I.ok.mod.kin (Bs.typ .ve) (by decide +kernel) vV (by decide +kernel) ?_
  show wpAny _ _ (callWith pos (Value.builtin "ValueError.__init__") [] (backTo pos (starEach (e :: es) X.env)) []) _ _ _
  refine PyProof.Rows.callWith_method1 (thn (ha.run pos pins _ σ H _ (I.tok _) h) fun us s1 ⟨vs, H1, I1, r1, a, C, ws, ev, hl, T, ea, q⟩ => ?_) he hpl
  subst ev
  cases r1 with
  | @cons _ u0 _ ur ra rw' =>
    obtain rfl : u0 = Value.ref a := ra
    exact oinitB T I1 ea (by rw [← Paired.length rw', sizeLine_eq]; omega) fun s' J => ⟨.non, H1, J, rfl, q⟩
theorem ps_osb (ho : PE X o to) (he : PE X e te) (hs : swapsWith e (some (.Attribute o f p')) pos.line X.env = pure false := by rfl) : PS X (.Assign [.Attribute o f p'] e pos) (tOsb X.K b f to te) := by
  refine ⟨fun pins s σ H D I h => ?_⟩
  refine plainObj_wpAny_Assign_Attribute (thn (he.run pins s σ H _ I h) fun v s1 ⟨y, H1, I1, r1, q1⟩ => thn (ho.run pins s1 σ H1 _ I1 q1) fun u s2 ⟨x, H2, I2, r2, a, C, ex, T, no, q⟩ => ?_) hs
  subst ex
  obtain rfl : u = Value.ref a := r2
  rcases q with ⟨ea, q⟩ | ⟨dx, fs, ea, ed, hl, q⟩
  · exact ostN T I2 ea no r1 fun dx s' n ne J => ⟨σ, _, J, q dx n ne⟩
  · exact ostO T I2 ea ed hl no r1 fun s' J => ⟨σ, _, J, q⟩
end
end L3
set_option Elab.async false
set_option linter.all false
set_option maxRecDepth 100000
set_option maxHeartbeats 2000000
namespace L3
open PySem PySem.Spec PyProof.Rows L2 ClX
section
variable {X : Cx} {CX : CXT} {x : Str} {e : Expr} {es : List Expr} {t : TA} {p1 p2 pos : Pos} {C f : Addr} {mc : Value} {k : Nat} {fd : FuncData} {ps : List Str} {sp : Sp} {E : XK}
/-- C.__init__(self, ..) -/
theorem pe_clsInit {pl : Sem Bool} (hg : Gl X x) (hm : X.mg x = some (.ref C)) (r : CRead X.K C mc) (c : CVal X.K C mc "__init__" (.ref f) (.ref f)) (kf : PySem.W.keepIn X.K (.ref f) = true) (F : FnOk X.prog X.w X.K X.mg X.base CX k f fd ps sp) (hr : Room k X.A) (hb : Binds X.K fd ps []) (hx : Passes CX X E) (ha : PA X (e :: es) t)
    (hc : eval (.Call (.Attribute (.Name x p1) "__init__" p2) (e :: es) [] pos) X.env = (do
      let ov ← eval (.Name x p1) X.env
      standAt p2.atName
      let (f, first) ← holding [ov] (getMethod ov "__init__" pl)
      callWith pos f first (backTo pos (starEach (e :: es) X.env)) (backToKw pos (keywordEach [] X.env))) := by rfl)
    (he : starEach (e :: es) X.env = (false, eval e X.env) :: starEach es X.env := by rfl) (hpl : (backTo pos (starEach es X.env)).any (·.1) = false := by rfl) (hdb : (x == ("__debug__" : Str)) = false := by decide) :
    PE X (.Call (.Attribute (.Name x p1) "__init__" p2) (e :: es) [] pos) (tCall sp [] E t) := by
  refine ⟨fun pins s σ H Q I h => ?_⟩
  refine PySem.W.methodCall_KW (ld_glob I hg hm ?_ hdb) hc
  refine PySem.W.method_cls I.kIn r.ga (getcval_ok I r c fun s1 I1 => ?_)
  refine PySem.W.callWith_K (first := []) (h₀ := X.base) I.ok.mod.kin kf (thn (ha.run pos pins s1 σ H _ I1 h) fun us s2 ⟨vs, H2, I2, r2, q2⟩ => ⟨I2.kIn, ?_⟩) he hpl
  exact run_fn F hr hb .nil hx I2 r2 q2
end
/-- InkError.__init__(self, word), Missing's -/
def spInk (K : PySem.W.Frag) (b : Bs) : Sp := fun vs H Q _ => ∃ a C w, vs = [.ref a, .str w] ∧ OexB K C b ∧ PySem.W.findIn K (.ref C) "word" = some none ∧ H a = some (exo a C none) ∧
  ∀ dx H2, H dx = none → dx ≠ a → H2 a = some (exo a C (some dx)) → H2 dx = some (exd dx [(("word" : Str), V.str w)]) → (∀ b, b ≠ a → b ≠ dx → H2 b = H b) → Q .non H2
/-- C.__init__(self, ..) of a class whose word is its name -/
def spBad (K : PySem.W.Frag) (nm : Str) (fs : List Str) : Sp := fun vs H Q _ => ∃ a ws, vs = .ref a :: ws ∧ ws.length = fs.length ∧ H a = some (exo a (He.ga K nm) none) ∧
  ∀ dx H2, H dx = none → dx ≠ a → H2 a = some (exo a (He.ga K nm) (some dx)) → H2 dx = some (exd dx (fs.zip ws ++ [(("word" : Str), V.str nm)])) → (∀ b, b ≠ a → b ≠ dx → H2 b = H b) → Q .non H2
structure BadC (K : PySem.W.Frag) (nm : Str) (fs : List Str) (b : Bs) : Prop where
  T : OexB K (He.ga K nm) b
  word : PySem.W.findIn K (.ref (He.ga K nm)) "word" = some none
  fs : ∀ f ∈ fs, PySem.W.findIn K (.ref (He.ga K nm)) f = some none
theorem ink_run {K : PySem.W.Frag} {b : Bs} {vs : List V} {H : Hp} {Q : VK} {E : XK} (h : spInk K b vs H Q E) :
    (tSeq (tDrop (tBiI K b (tCons (tVar 0) (tCons (tVar 1) tNil)))) (tOsb K b "word" (tVar 0) (tVar 1))) { nx := fun _ H' => Q .non H', rt := Q } (L2.start ["self", "word"] vs) H := by
  obtain ⟨a, C, w, rfl, T, no, e, q⟩ := h
  refine ⟨_, rfl, _, rfl, a, C, [.str w], rfl, (by show 1 ≤ 1000; omega), T, e, ?_⟩
  refine ⟨_, rfl, _, rfl, a, C, rfl, T, no, .inl ⟨e, fun dx n ne => q dx _ n ne upd_same ?_ fun b b1 b2 => ?_⟩⟩
  · rw [upd_ne ne, upd_same]
  · rw [upd_ne b1, upd_ne b2]
theorem bad0_run {K : PySem.W.Frag} {b : Bs} {nm : Str} {vs : List V} {H : Hp} {Q : VK} {E : XK} (B : BadC K nm [] b) (h : spBad K nm [] vs H Q E) :
    (tDrop (tCall (spInk K b) [] E0 (tCons (tVar 0) (tCons (tC (.str nm)) tNil)))) { nx := fun _ H' => Q .non H', rt := Q } (L2.start ["self"] vs) H := by
  obtain ⟨a, ws, rfl, hl, e, q⟩ := h
  have : ws = [] := List.eq_nil_of_length_eq_zero hl
  subst this
  exact ⟨_, rfl, a, _, nm, rfl, B.T, B.word, e, q⟩
def tBad (K : PySem.W.Frag) (nm : Str) (fs : List Str) (ta : TA) : L2.St → Hp → XK → Prop := fun σ H Q => ta σ H fun ws H1 => ws.length = fs.length ∧ ∀ d, H1 d = none → Q (.ref (He.ga K nm)) (some d) (upd H1 d (.xd (fs.zip ws ++ [(("word" : Str), V.str nm)])))
structure BadOk (P : Program) (w : World) (K : PySem.W.Frag) (mg : Str → Option Value) (base : Heap) (k : Nat) (nm : Str) (fs : List Str) : Prop where
  c : ∃ b, BadC K nm fs b
  gl : mg nm = some (.ref (He.ga K nm))
  ex : ∃ fI fd ps, PySem.W.findIn K (.ref (He.ga K nm)) "__init__" = some (some (.ref fI)) ∧ PySem.W.typeIn K (.ref fI) = some (.type "function") ∧ FnOk P w K mg base (L2N.CX P w) k fI fd ps (spBad K nm fs) ∧ Binds K fd ps []
theorem BadOk.mono {P : Program} {w : World} {K : PySem.W.Frag} {mg : Str → Option Value} {base : Heap} {j k : Nat} {nm : Str} {fs : List Str} (b : BadOk P w K mg base j nm fs) (h : j ≤ k) : BadOk P w K mg base k nm fs :=
  ⟨b.c, b.gl, let ⟨fI, fd, ps, a1, a2, F, a3⟩ := b.ex; ⟨fI, fd, ps, a1, a2, F.mono h, a3⟩⟩
section
variable {X : Cx} {nm : Str} {fs : List Str} {e : Expr} {es : List Expr} {ta : TA} {p pos : Pos} {k : Nat}
/-- C(ws), ws at hand -/
theorem mk_bad {pins : List (Addr × Obj)} {σ : L2.St} {H1 : Hp} {Q : XK} {s1 : Shared} {us : List Value} {ws : List V} (B : BadOk X.prog X.w X.K X.mg X.base k nm fs) (hr : Room (k + 1) X.A) (I1 : Inv X pins σ H1 s1) (r1 : Vals ws us) (hz : ws.length = fs.length) (few : fs.length ≤ 5)
    (q1 : ∀ d, H1 d = none → Q (.ref (He.ga X.K nm)) (some d) (upd H1 d (.xd (fs.zip ws ++ [(("word" : Str), V.str nm)])))) : wpAny (model X.prog X.w) X.A (call (.ref (He.ga X.K nm)) us) (L2N.MkP X pins σ Q) X.xe s1 := by
  obtain ⟨fI, fd, ps, iC, tI, F1, hb⟩ := B.ex
  obtain ⟨bb, Bc⟩ := B.c
  obtain ⟨cn, cq, N, bs, bm, sn, sub, ab, col, dd, k0, k1, k2, k3, k5, hC, hbm⟩ := Bc.T.cls
  obtain ⟨hp, g, dr, tk, os⟩ := s1
  generalize hCe : He.ga X.K nm = C at *
  have fr : H1 (hp.objs.size + 1) = none := I1.hok.fresh (Nat.le_succ _)
  have kk : ∀ b o, hp.get? b = some o → ((hp.push (PySem.W.kdv_tup us)).push (PySem.HandSPX.excO C hp.objs.size)).get? b = some o := fun b o z => Heap.get?_push_of_some _ (Heap.get?_push_of_some _ z)
  have at1 : ((hp.push (PySem.W.kdv_tup us)).push (PySem.HandSPX.excO C hp.objs.size)).get? (hp.objs.size + 1) = some (PySem.HandSPX.excO C hp.objs.size) := by heap_get
  have I2 := I1.laid (t' := tk) (a := hp.objs.size + 1) (o := exo (hp.objs.size + 1) C none) (h' := (hp.push (PySem.W.kdv_tup us)).push (PySem.HandSPX.excO C hp.objs.size)) kk (Nat.le_succ _) (exo_ok at1)
  have r2 : Vals (V.ref (hp.objs.size + 1) :: ws) (Value.ref (hp.objs.size + 1) :: us) := .cons rfl r1
  have hw : us.length ≤ sizeLine := by rw [← Paired.length r1, sizeLine_eq]; omega
  have e2 : upd H1 (hp.objs.size + 1) (exo (hp.objs.size + 1) C none) (hp.objs.size + 1) = some (exo (hp.objs.size + 1) C none) := upd_same
  have hq : spBad X.K nm fs (V.ref (hp.objs.size + 1) :: ws) (upd H1 (hp.objs.size + 1) (exo (hp.objs.size + 1) C none)) (fun v H2 => v = .non ∧ ∃ d, H1 d = none ∧ d ≠ hp.objs.size + 1 ∧ H2 (hp.objs.size + 1) = some (exo (hp.objs.size + 1) C (some d)) ∧ H2 d = some (exd d (fs.zip ws ++ [(("word" : Str), V.str nm)])) ∧ ∀ b, b ≠ hp.objs.size + 1 → b ≠ d → H2 b = H1 b) E0 := by
    refine ⟨hp.objs.size + 1, ws, rfl, hz, by rw [hCe]; exact e2, fun dx H2 n ne ea ed oth => ⟨rfl, dx, ?_, ne, by rw [hCe] at ea; exact ea, ed, fun b b1 b2 => ?_⟩⟩
    · rw [upd_ne ne] at n; exact n
    · rw [oth b b1 b2, upd_ne b1]
  have hl : ((Value.ref (hp.objs.size + 1) :: us) ++ []).length = ps.length := by
    rw [List.append_nil, ← r2.length]; exact F1.len _ _ _ _ hq
  have b2 := hb _ (Value.ref (hp.objs.size + 1) :: us) I2.kIn hl
  rw [List.append_nil] at b2
  refine wpAny_call (PySem.HandSPX.call_own bb.base hbm.has (I1.kIn _ _ hC) (PySem.W.looks_findIn I1.kIn iC) (fun self => PySem.W.bind_fn I1.kIn self tI) hw
    (codeAny_mono (F1.run _ X.stack _ _ ⟨Value.ref (hp.objs.size + 1) :: us, []⟩ _ _ _ E0 (hr.make C us []) (I2.env0.make C us []) b2 r2 hq) fun r s2 hq2 => ?_))
  cases r with
  | error er => exact passE0 pins σ _ _ er s2 I2 hq2
  | ok fl =>
    cases fl with
    | next => exact False.elim hq2
    | brk => exact False.elim hq2
    | cont => exact False.elim hq2
    | ret u =>
      obtain ⟨v, H2, os2, bare2, un2, hok2, rv, ev, d, hd1, dne, ea, ed, oth⟩ := hq2
      subst ev
      obtain ⟨h2, g2, d2, t2, os'⟩ := s2
      obtain ⟨t0, G, J, kG, ge, hoe, na⟩ := mk_end0 (d2 := d2) (t2 := t2) I1 (Nat.le_succ _) kk un2 hok2 os2 bare2 ea ed hd1
      have eH : upd (del H2 (hp.objs.size + 1)) d (.xd (fs.zip ws ++ [(("word" : Str), V.str nm)])) = upd H1 d (.xd (fs.zip ws ++ [(("word" : Str), V.str nm)])) := by
        funext b
        by_cases hbd : b = d
        · rw [hbd, upd_same, upd_same]
        · rw [upd_ne hbd, upd_ne hbd]
          by_cases hba : b = hp.objs.size + 1
          · rw [hba, del_same, fr]
          · rw [del_ne hba, oth b hba hbd]
      rw [eH] at J na
      exact ⟨rv, hp.objs.size + 1, _, _, ⟨G, g2, d2, t2, os'⟩, _, .ref C, some d, rfl, J, kG, ge, hoe, ⟨rfl, rfl, fun vs hv => by cases hv; rfl⟩, rfl, rfl, na, rfl, bare2, raises_own (by rw [← hCe]; exact Bc.T.exC) (by rw [← hCe]; exact Bc.T.tyC), q1 d hd1⟩
theorem pmk_bad0 (B : BadOk X.prog X.w X.K X.mg X.base k nm []) (hr : Room (k + 1) X.A) (hg : Gl X nm := by rfl) (hdb : (nm == ("__debug__" : Str)) = false := by decide) : L2N.PMk X (.Call (.Name nm p) [] [] pos) (tBad X.K nm [] tNil) := by
  intro pins s σ H Q I h
  obtain ⟨hz, q1⟩ := h
  refine wpAny_Call_Name_kw (ld_glob I hg B.gl ?_ hdb)
  exact PySem.W.callWith_K0 I.kIn (let ⟨_, c⟩ := B.c; c.T.kC) (mk_bad (us := []) (ws := []) B hr I .nil rfl (by show 0 ≤ 5; omega) q1)
def xRaise (nm : Str) (fs : List Str) (t : DA) : DSX := fun D E env M => t env M fun ds M1 => E nm (fs ++ [("word" : Str)]) (ds ++ [.str nm]) M1
theorem zip_app {α β : Type} : ∀ {as : List α} {bs : List β} {x : α} {y : β}, as.length = bs.length → (as ++ [x]).zip (bs ++ [y]) = as.zip bs ++ [(x, y)]
  | [], [], _, _, _ => rfl
  | [], b :: bs, _, _, h => by simp at h
  | a :: as, [], _, _, h => by simp at h
  | a :: as, b :: bs, x, y, h => by
    show (a, b) :: (as ++ [x]).zip (bs ++ [y]) = (a, b) :: (as.zip bs ++ [(x, y)])
    rw [zip_app (by simpa using h)]
theorem raise_up {K : PySem.W.Frag} {R F F1 : Hp} {M1 : Mp} {H1 : Hp} {E : XK} {Ed : DX} {nm : Str} {fs : List Str} {ds : List D} {ws : List V} (hs : SOk nm) (s1 : Same F F1) (a1 : At K R F1 M1 H1) (r1 : Reps K F1 ds ws) (hl : ds.length = fs.length) (q : Ed nm (fs ++ [("word" : Str)]) (ds ++ [.str nm]) M1) (kx : KX K R F Ed E) :
    ws.length = fs.length ∧ ∀ d, H1 d = none → E (.ref (He.ga K nm)) (some d) (upd H1 d (.xd (fs.zip ws ++ [(("word" : Str), V.str nm)]))) := by
  have hw : ws.length = fs.length := by rw [← r1.length, hl]
  refine ⟨hw, fun d hd => ?_⟩
  obtain ⟨a2, s2⟩ := a1.laid hd (.xd (fs.zip ws ++ [(("word" : Str), V.str nm)]))
  refine kx _ _ M1 nm d (fs ++ [("word" : Str)]) (ds ++ [.str nm]) (ws ++ [.str nm]) (s1.trans s2) a2 ?_ (by rw [List.length_append, List.length_append, hl]; rfl) ((r1.mono s2).append (Reps.one (d := .str nm) (v := .str nm) ⟨rfl, hs⟩)) q
  rw [upd_same, zip_app hw.symm]
theorem psx_raise0 {E : XK} {cpos : Pos} (tk : TakeX X E) (B : BadOk X.prog X.w X.K X.mg X.base k nm []) (hr : Room (k + 1) X.A) (hs : SOk nm := by decide +kernel) (hc : X.calm = true := by rfl) (hg : Gl X nm := by rfl) (hdb : (nm == ("__debug__" : Str)) = false := by decide) :
    PDSX X E (.Raise (some (.Call (.Name nm p) [] [] cpos)) none pos) (xRaise nm [] dNil) :=
  ps_imp (L2N.ps_raise hc tk (pmk_bad0 B hr hg hdb)) fun D σ H ⟨R, F, env, M, Dd, Ed, a, en, h, kk, kx⟩ => raise_up (fs := []) (ds := []) (ws := []) hs (Same.refl F) a rfl rfl h kx
end
end L3
set_option Elab.async false
set_option linter.all false
set_option maxRecDepth 100000
set_option maxHeartbeats 2000000
namespace L3
open PySem PySem.Spec PyProof.Rows L2 HotX
section
variable {prog : Program} {w : World} {A : Around} {E : Value → Shared → Prop} {s : Shared}
theorem nextEndHot {it t x1 : Addr} {i : Nat} {items : Array Value} {Q : Option Value → Shared → Prop} (hot : HotAt A x1 s.heap) (ne : x1 ≠ it) (hit : IsTupIter s.heap it t i) (ht : IsTup s.heap t items) (hx : items[i]? = none)
    (hQ : ∀ h', Heap.ExtBut it s.heap h' → Q none { s with heap := h' }) : wpAny (model prog w) A (pyNext (.ref it)) Q E s := by
  obtain ⟨oI, hoI, hcI, hdI⟩ := id hit
  obtain ⟨oT, hoT, _, nT, hdT⟩ := ht
  obtain ⟨hh, o1, vs1, e1, d1, c1⟩ := hot
  have sl := slot_tupleiter_next
  unfold pyNext
  refine wpAny_bind (wpAny_attempt (wpAny_callSpecial?_slot (name := Str.ofString "__next__") hit.typeIs sl (wpAny_call_entry sl hit.typeIs entry_tupleiter_next ?_ (args_tupleiter_next _))))
  (show wpAny _ _ (field (.ref it) 0 >>= _) _ _ s); refine wpAny_bind (wpAny_field hoI hdI (x := .ref t) rfl ?_)
  have nn : ¬ ((Value.ref t == Value.none) = true) := Bool.false_ne_true
  (show wpAny _ _ (if (Value.ref t == Value.none) = true then _ else _) _ _ s); rw [if_neg nn]
  (show wpAny _ _ (field (.ref it) 1 >>= _) _ _ s); refine wpAny_bind (wpAny_field hoI hdI (x := .int i 0) rfl ?_)
  (show wpAny _ _ (seqItems? (.ref t) >>= _) _ _ s); refine wpAny_bind (wpAny_seqItems hoT hdT ?_)
  simp only [Int.toNat_natCast, hx]
  refine wpAny_bind (wpAny_rule (wpAny_bind (wpAny_setField hoI hdI (by simp) ?_)))
  have k1 : (s.heap.update it (Obj.mapFields (·.setIfInBounds 0 Value.none))).get? x1 = some o1 := by rw [Heap.get?_update_other _ _ (Ne.symm ne)]; exact e1
  generalize hU : s.heap.update it (Obj.mapFields (·.setIfInBounds 0 Value.none)) = hu at k1
  have eU : Heap.ExtBut it s.heap hu := by rw [← hU]; exact (Heap.SameBut.update ..).extBut
  (show wpAny _ _ (newExc (.type "StopIteration") [] >>= _) _ _ _); refine wpAny_bind ?_
  simp only [newExc, newTuple]; refine wpAny_bind (wpAny_newObj_type ?_ (by size_fits))
  refine wpAny_bind (m := firstArgMember _ _) (wpAny_of_eq (a := Value.none) (by first | rfl | (simp only [firstArgMember]; rfl)) (wpAny_newObj_type ?_ (by size_fits)))
  refine raiseNew_hot ⟨hh, o1, vs1, Heap.get?_push_of_some _ (Heap.get?_push_of_some _ k1), d1, c1⟩ (Nat.ne_of_lt (Heap.lt_size (Heap.get?_push_of_some _ k1))) (Heap.get?_push_size _ rfl) rfl (by first | (simp; done) | (simp; omega) | (simp only [Array.size_append]; simp; omega)) ?_
  refine wpAny_bind (wpAny_isInstance (T := "StopIteration") (b := true) ⟨_, Heap.get?_update_self _ (Heap.get?_push_size _ rfl) rfl, rfl⟩ isSubtype_stop (wpAny_pure (hQ _ fun b o hb e => ?_)))
  have e2 := eU b o hb e
  rw [Heap.get?_update_other _ _ (Nat.ne_of_gt (Heap.lt_size (Heap.get?_push_of_some _ e2)))]
  exact Heap.get?_push_of_some _ (Heap.get?_push_of_some _ e2)
theorem unpackHot {t x1 : Addr} {items : Array Value} {Q : List Value → Shared → Prop} (hot : HotAt A x1 s.heap) (ht : IsTup s.heap t items)
    (hQ : ∀ h', Heap.ExtBut s.heap.objs.size s.heap h' → Q items.toList { s with heap := h' }) : wpAny (model prog w) A (unpackItems (.ref t) items.size none) Q E s := by
  obtain ⟨hh, o1, vs1, e1, d1, c1⟩ := hot
  have lt : t ≠ s.heap.objs.size := let ⟨o, ho, _⟩ := ht; Nat.ne_of_lt (Heap.lt_size ho)
  have lx : x1 ≠ s.heap.objs.size := Nat.ne_of_lt (Heap.lt_size e1)
  unfold unpackItems
  refine wpAny_bind ?_
  unfold notIterableAtAll
  refine wpAny_bind (wpAny_specialOf ht.typeIs slot_tuple_iter.lookup (wpAny_pure ?_))
  simp only [Bool.false_eq_true, if_false]; refine wpAny_bind (wpAny_holding (iter_tuple ht ?_))
  refine wpAny_bind (wpAny_holding (draw_tuple lt items.size 0 _ _ ⟨_, Heap.get?_push_size _ rfl, rfl, rfl⟩ (ht.push _) (by omega) fun h1 i1 sb1 => ?_))
  have all : List.take items.size (List.drop 0 items.toList) = items.toList := List.take_of_length_le (by simp)
  rw [all, if_neg (by simp)]
  have x1' : h1.get? x1 = some o1 := sb1.extBut _ _ lx (Heap.get?_push_of_some _ e1)
  refine wpAny_bind (wpAny_holding (nextEndHot ⟨hh, o1, vs1, x1', d1, c1⟩ lx i1 ((ht.push _).extBut sb1.extBut lt) (by simp) fun h2 eb2 => ?_))
  simp only [Option.isSome_none, Bool.false_eq_true, if_false]; exact wpAny_pure (hQ h2 fun b o hb e => eb2 b o hb (sb1.extBut b o hb (Heap.get?_push_of_some _ e)))
end
theorem ps_parH {X : Cx} {i j : Nat} {x y : Str} {a b : Expr} {ta : TA} {px py pt pos : Pos} {kt k2 pt2} (hc : L2H.HotC X) (hN : X.N.Nodup) (hi : X.N[i]? = some x) (hj : X.N[j]? = some y) (hij : i ≠ j)
    (hx : X.env.scope.names.lookup x = some .local) (hy : X.env.scope.names.lookup y = some .local) (ha : PA X [a, b] ta)
    (hw : swappedStores [.Tuple [.Name x px, .Name y py] kt pt] (.Tuple [a, b] k2 pt2) X.env = pure (some [x, y]) := by rfl)
    (hs : swapsWithSole [.Tuple [.Name x px, .Name y py] kt pt] (.Tuple [a, b] k2 pt2) pos.line X.env = pure false := by rfl) : PS X (.Assign [.Tuple [.Name x px, .Name y py] kt pt] (.Tuple [a, b] k2 pt2) pos) (tPar i j ta) := by
  refine ⟨fun pins s σ H D I h => ?_⟩
  rw [exec_Assign_arm]; refine wpAny_bind (wpAny_standAt ?_)
  rw [hs]; refine wpAny_bind (wpAny_pure ?_)
  rw [if_neg (by decide)]; refine wpAny_bind (Tuple_ (thn (ha.run _ pins s σ H _ I h) fun us s1 ⟨vs, H1, I1, r1, v, w, ev, q1⟩ => ?_))
  subst ev
  have two : ∃ u1 u2, us = [u1, u2] ∧ RelV v u1 ∧ RelV w u2 := by
    cases r1 with
    | cons p q => cases q with
      | cons p' q' => cases q' with
        | nil => exact ⟨_, _, rfl, p, p'⟩
  obtain ⟨u1, u2, rfl, rv, rw2⟩ := two
  refine wpAny_newObj_type ?_ (by show 2 ≤ sizeLine; decide)
  have I2 : Inv X pins σ H1 { s1 with heap := s1.heap.push ({ cls := .type "tuple", data := .seq [u1, u2].toArray } : Obj) } := I1.kept (t' := s1.toks) (fun b o => Heap.get?_push_of_some _)
  rw [hw]; refine wpAny_bind (wpAny_pure ?_)
  (show wpAny (model X.prog X.w) X.A (do rule "assign.swapped-stores"; let items ← unpackItems (.ref s1.heap.objs.size) 2 none; assignInOrder [fun v => bindName X.env y v, fun v => bindName X.env x v] items.reverse; pure Flow.next) _ _ _)
  obtain ⟨x1, hot⟩ := hc.at I2
  refine wpAny_bind (wpAny_rule (wpAny_bind (unpackHot (items := #[u1, u2]) hot (IsTup.new s1.heap _) fun h3 eb => ?_)))
  have I3 := I2.kept (h' := h3) (t' := s1.toks) (fun b o e => eb b o (Nat.ne_of_lt (Heap.lt_size e)) e)
  (show wpAny _ _ (assignInOrder [fun v => bindName X.env y v, fun v => bindName X.env x v] [u2, u1] >>= fun _ => pure Flow.next) _ _ _)
  refine wpAny_bind (assignInOrder_cons (wpAny_bindName (store_ok I3 hN hj (.inl hy) rw2 (fun s4 I4 => assignInOrder_cons (wpAny_bindName (store_ok I4 hN hi (.inl hx) rv (fun s5 I5 => assignInOrder_nil (wpAny_pure ?_)) (.inr hx)))) (.inr hy))))
  rw [List.set_comm _ _ (Ne.symm hij)] at I5
  exact ⟨_, H1, I5, q1⟩
end L3
set_option Elab.async false
set_option linter.all false
set_option maxRecDepth 100000
set_option maxHeartbeats 2000000
namespace L3
open PySem PySem.Spec PyProof.Rows L2
/-- what a call of the lambda at f does, from any later state -/
structure Cal (P : Program) (w : World) (K : PySem.W.Frag) (mg : Str → Option Value) (base : Heap) (k : Nat) (q : Str) (f c : Addr) (tl : XK → Hp → VK → Prop) (fr : List Addr) (s : Shared) (H : Hp) : Prop where
  fn : ∀ (s1 : Shared) (HZ : Hp), Un fr [] H HZ s.heap s1.heap → PySem.W.FnAt f s1.heap
  run : ∀ (A : Around) (outer : List Env) (s1 : Shared) (HZ : Hp) (Q : VK) (E : XK), Room (k + 1) A → Env0 P w K mg base A outer s1 HZ → Un fr [] H HZ s.heap s1.heap → HZ c = some (LamX.CodeO c q) → tl E HZ Q →
    codeAny (model P w) A (.call (.ref f) ⟨[], []⟩) (CR (L2N.CX P w) outer P w HZ s1 Q E) s1
theorem un_glue {fr fr' : List Addr} {H H1 H2 : Hp} {h h1 h2 : Heap} (a : Un fr [] H H1 h h1) (b : Un fr' [] H1 H2 h1 h2) (sub : ∀ x ∈ fr, x ∈ fr') (new : ∀ x ∈ fr', x ∈ fr ∨ h.get? x = none) : Un fr [] H H2 h h2 := by
  have nin : ∀ x o, h.get? x = some o → x ∉ fr → x ∉ fr' := fun x o e n m => by
    rcases new x m with z | z
    · exact n z
    · rw [z] at e; cases e
  refine ⟨fun x o e n nf nx => b.keep x o (a.keep x o e n nf nx) (a.free x o e n nx) (nin x o e nf) nx, fun x o e n inf nx => ?_, fun x o e n nx => ?_, fun x o e nx => ?_, fun x xs e => b.tups x xs (a.tups x xs e), fun x o u e => b.frzs x o u (a.frzs x o u e), fun x ps e => ?_⟩
  · obtain ⟨sl, e1⟩ := a.slot x o e n inf nx
    obtain ⟨sl2, e2⟩ := b.slot x _ e1 (a.free x o e n nx) (sub x inf) nx
    exact ⟨sl2, e2⟩
  · obtain ⟨o', e1⟩ := a.there x o e nx
    exact b.free x o' e1 (a.free x o e n nx) nx
  · obtain ⟨o', e1⟩ := a.there x o e nx
    exact b.there x o' e1 nx
  · obtain ⟨m1, e1⟩ := a.tbls x ps e
    obtain ⟨m2, e2⟩ := b.tbls x _ e1
    exact ⟨m1 ++ m2, by rw [e2, Array.append_assoc]⟩
theorem Cal.step {P : Program} {w : World} {K : PySem.W.Frag} {mg : Str → Option Value} {base : Heap} {k : Nat} {q : Str} {f c : Addr} {tl : XK → Hp → VK → Prop} {fr fr' : List Addr} {s s2 : Shared} {H H2 : Hp} (C : Cal P w K mg base k q f c tl fr s H) (u : Un fr [] H H2 s.heap s2.heap) (sub : ∀ x ∈ fr, x ∈ fr') (new : ∀ x ∈ fr', x ∈ fr ∨ s.heap.get? x = none) :
    Cal P w K mg base k q f c tl fr' s2 H2 := ⟨fun s1 HZ un => C.fn s1 HZ (un_glue u un sub new), fun A outer s1 HZ Q E hr e0 un hc ht => C.run A outer s1 HZ Q E hr e0 (un_glue u un sub new) hc ht⟩
/-- .. into a def that is called from X -/
theorem Cal.call {X : Cx} {pins : List (Addr × Obj)} {σ : L2.St} {s : Shared} {H : Hp} {k : Nat} {q : Str} {f c : Addr} {tl : XK → Hp → VK → Prop} (C : Cal X.prog X.w X.K X.mg X.base k q f c tl X.fs X.s_0 X.H_0) (I : Inv X pins σ H s) (hx : X.ex = []) (hs : X.stack = X.env :: X.outer) : Cal X.prog X.w X.K X.mg X.base k q f c tl (frs X.stack) s H := by
  have u := I.base
  rw [hx] at u
  refine C.step u (fun x hm => ?_) fun x hm => ?_
  · rw [hs]
    obtain ⟨e, he, z⟩ := List.mem_filterMap.mp hm
    exact List.mem_filterMap.mpr ⟨e, List.mem_cons_of_mem _ he, z⟩
  · rcases List.mem_cons.mp (I.stkSub x hm) with z | z
    · refine .inr ?_
      cases e : X.s_0.heap.get? x with
      | none => rfl
      | some o =>
        have h1 := Heap.lt_size e
        have h2 := I.ok.above
        rw [z] at h1
        exact absurd (Nat.lt_of_lt_of_le h1 h2) (Nat.lt_irrefl _)
    · exact .inl z
/-- the context of a lambda's body -/
abbrev lamN (X : Cx) (A : Around) (outer : List Env) (s : Shared) (H : Hp) (E : XK) (scope : Scope) (f c : Addr) : Cx :=
  (LamX.lamCx X A outer s H E scope f c).wish fun e s' => wpAny (model X.prog X.w) (A.deeper (LamX.lamEnv X scope s.heap.objs.size f c)) (leaving (LamX.lamEnv X scope s.heap.objs.size f c) e) (fun _ s2 => L2N.CX X.prog X.w outer H s E e s2) (fun e2 s2 => L2N.CX X.prog X.w outer H s E e2 s2) s'
theorem takes_lam {X : Cx} {A : Around} {outer : List Env} {s : Shared} {H : Hp} {E : XK} {scope : Scope} {f c : Addr} : TakeX (lamN X A outer s H E scope f c) E := L2N.takes_of rfl rfl rfl rfl
theorem lam_cal {X : Cx} {pins : List (Addr × Obj)} {σ : L2.St} {H : Hp} {s : Shared} {f c : Addr} {pm ctv : Value} {params : Arguments} {body : Expr} {scope : Scope} {k : Nat} {tb : XK → TE} (I : Inv X pins σ H s) (L : LamX.LamS X.env.scope scope)
    (hf : s.heap.get? f = some (PySem.W.kla_obj "<lambda>" (X.env.qual ++ "<lambda>") params body scope (cloFrom X.env.cells scope.names []) pm c ctv)) (hfn : H f = none) (hfr : f ∉ frs X.stack)
    (hbind : bindArgs (PySem.W.kla_fn "<lambda>" (X.env.qual ++ "<lambda>") params body scope (cloFrom X.env.cells scope.names []) pm (.ref c) ctv) ⟨[], []⟩ = pure [])
    (hbody : ∀ (A : Around) (outer : List Env) (s1 : Shared) (H1 : Hp) (E : XK), Room k (A.deeper (LamX.lamEnv X scope s1.heap.objs.size f c)) → PE (lamN X A outer s1 H1 E scope f c) body (tb E)) :
    Cal X.prog X.w X.K X.mg X.base k (X.env.qual ++ "<lambda>") f c (fun E HZ Q => tb E σ HZ Q) (frs X.stack) s H := by
  refine ⟨fun s1 HZ un => ⟨_, _, _, _, un.keep f _ hf hfn hfr (by simp)⟩, ?_⟩
  intro A outer s1 HZ Q E hr e0 un hc ht
  have of1 := un.keep f _ hf hfn hfr (by simp)
  obtain ⟨⟨oc, vs, t, ho, hd, hv⟩, _, _⟩ := e0.hok c _ hc
  refine PySem.W.kla_callFunE hr.depth of1 rfl L.co L.gen rfl ⟨c, oc, vs, t, rfl, ho, hd, hv⟩ ?_
  rw [hbind]
  have lim : s1.heap.NoLimit := e0.mod.nolimit.keeps fun b o e => (e0.bs b o e).1
  refine wpAny_pure (wpAny_newFunctionEnv (fun y hy => (L.own y hy).2) (fun y hy => absurd hy (by simp)) (fun h2 ns sb => ⟨lim.fresh _ sb, ?_⟩) L.kind)
  have kp : ∀ b o, s1.heap.get? b = some o → h2.get? b = some o := fun b o e => sb.extBut b o (Nat.ne_of_lt (Heap.lt_size e)) (Heap.get?_push_of_some _ e)
  (show codeAny _ _ (.expr body (LamX.lamEnv X scope s1.heap.objs.size f c)) _ _)
  have J : Inv (LamX.lamCx X A outer s1 HZ E scope f c) [] σ HZ { s1 with heap := h2, toks := s1.toks + ([] : List (Str × Value)).length } := LamX.lam_start2 I L e0 hr.hd un ns kp
  have JN : Inv (lamN X A outer s1 HZ E scope f c) [] σ HZ { s1 with heap := h2, toks := s1.toks + ([] : List (Str × Value)).length } := J.wish _
  exact PySem.W.kla_codeExpr (wpAny_mono ((hbody A outer s1 HZ E (hr.deeper _)).run [] _ σ HZ Q JN ht) (fun v s' ⟨w', H', J', rv, q⟩ => ⟨w', H', J'.os, J'.bare, J'.base, J'.hok, rv, q⟩) fun e s' hq => hq)
/-- x(), where x is a lambda that was handed on -/
def tAsk (W : WX) (i : Nat) (f c : Addr) (q : Str) (tl : XK → Hp → VK → Prop) : TE := fun σ H Q => σ[i]? = some (some (.ref f)) ∧ H c = some (LamX.CodeO c q) ∧ ∃ E : XK, (∀ cls d H', E cls d H' → W cls d σ H') ∧ tl E H Q
theorem pe_ask {Z : Cx} {W : WX} {k i : Nat} {f c : Addr} {q a : Str} {tl : XK → Hp → VK → Prop} {p1 p2 : Pos} (C : Cal Z.prog Z.w Z.K Z.mg Z.base k q f c tl Z.fs Z.s_0 Z.H_0) (hx : Z.ex = []) (tk : L2N.Takes Z W) (hr : Room (k + 1) Z.A)
    (hN : Z.N[i]? = some a) (hv : Vis Z.env.scope a) (hd : (a == ("__debug__" : Str)) = false := by decide) (hcd : (a == ("__classdict__" : Str)) = false := by decide) : PE Z (.Call (.Name a p1) [] [] p2) (tAsk W i f c q tl) := by
  refine ⟨fun pins s σ H Q I ⟨h0, hc, E, hW, ht⟩ => ?_⟩
  refine wpAny_Call_Name_kw (thn ((pe_var (pos := p1) (i := i) hN hv hd hcd).run pins s σ H (fun v H1 => v = .ref f ∧ H1 = H) I ⟨.ref f, h0, rfl, rfl⟩) fun u s1 ⟨v, H1, I1, r1, ev, eH⟩ => ?_)
  subst ev
  rw [eH] at I1
  obtain rfl : u = Value.ref f := r1
  have u1 := I1.base
  rw [hx] at u1
  refine PySem.W.callWith_F0 (C.fn s1 H u1) (wpAny_call (codeAny_mono (C.run Z.A Z.stack s1 H Q E hr I1.env0 u1 hc ht) fun r s' hq => ?_))
  cases r with
  | error e => exact tk e s' (L2N.XE.of_call I1 (fun cls d H' h => hW cls d H' h) hq)
  | ok fl =>
    cases fl with
    | ret u => exact I1.after hq
    | next => exact False.elim hq
    | brk => exact False.elim hq
    | cont => exact False.elim hq
end L3
set_option Elab.async false
set_option linter.all false
set_option maxRecDepth 100000
set_option maxHeartbeats 2000000
namespace L3
open PySem PySem.Spec PyProof.Rows L2
abbrev eNx (f : L2.St → Hp → Prop) : Ends := { nx := f, rt := fun _ _ => False, bk := fun _ _ => False, ct := fun _ _ => False }
/-- what the clause wishes of an exception: slot i is its name's -/
def wTup (K : PySem.W.Frag) (cs : List Value) (i : Nat) (ts : Addr → Value → Option Addr → TS) (nx : L2.St → Hp → Prop) : WX := fun cls d σ H =>
  PySem.W.exmAny K cls cs = some true ∧ ∀ a, H a = none → ts a cls d (eNx fun σ' H' => nx (σ'.set i none) H') (σ.set i (some (.ref a))) H
def tTry3 (K : PySem.W.Frag) (cs : List Value) (i : Nat) (tb : WX → TS) (ts : Addr → Value → Option Addr → TS) : TS := fun D σ H => tb (wTup K cs i ts D.nx) (eNx D.nx) σ H
section
variable {X : Cx} {x1 x2 x3 n : Str} {c1 c2 c3 : Value} {i kk : Nat} {body suite : List Stmt} {b₀ : Stmt} {p1 p2 p3 tp pos pos' : Pos} {tb : WX → TS} {ts : Addr → Value → Option Addr → TS}
theorem look_name {Y : Cx} {pins : List (Addr × Obj)} {σ : L2.St} {H : Hp} {s : Shared} {x : Str} {c : Value} {p : Pos} {Q E : Value → Shared → Prop} (I : Inv Y pins σ H s) (hc : Names Y x c) (q : Q c s) : wpAny (model Y.prog Y.w) Y.A (eval (.Name x p) Y.env) Q E s := by
  obtain ⟨g, dbg, m | ⟨m, v, nn⟩⟩ := hc
  · exact ld_glob I g m q dbg
  · exact ld_blt I g m v q nn dbg
theorem ps_try_tup (hs : X.stack = X.env :: X.outer) (hf : X.env.frame = some X.env.locals) (hN : X.N.Nodup) (hi : X.N[i]? = some n) (hln : X.env.kindOf n = some .local) (n1 : Names X x1 c1) (n2 : Names X x2 c2) (n3 : Names X x3 c3)
    (hb : ∀ (W : WX) (pn : List (Addr × Obj)) (xe : Value → Shared → Prop), L2N.Takes (X.tr pn xe) W → PSs (X.tr pn xe) body (tb W))
    (hsu : ∀ (a : Addr) (oe : Obj) (cls : Value) (d : Option Addr) (pn : List (Addr × Obj)), L2N.Zn cls d oe → (∃ vs, oe.data = .fields vs) → PSs (X.suite a ((a, oe) :: pn)) (b₀ :: suite) (ts a cls d)) :
    PS X (.Try body [.ExceptHandler (some (.Tuple [.Name x1 p1, .Name x2 p2, .Name x3 p3] kk tp)) (some n) (b₀ :: suite) pos'] [] [] pos) (tTry3 X.K [c1, c2, c3] i tb ts) := by
  refine ⟨fun pins s σ H D I h => ?_⟩
  have okX := I.ok
  have frX : X.A.frames = some (X.env :: X.outer) := by rw [okX.frames, hs]
  generalize hh : Expr.Tuple [.Name x1 p1, .Name x2 p2, .Name x3 p3] kk tp = tup
  refine wpAny_Try_except (wpAny_mono ((hb (wTup X.K [c1, c2, c3] i ts D.nx) (X.pn ++ pins) (fun e u1 => wpAny (model X.prog X.w) X.A (noteFrame e X.env) (fun _ u2 => wpAny (model X.prog X.w) X.A (setFlight e none) (fun _ u3 =>
    wpAny (model X.prog X.w) X.A (handleBy e X.env [.ExceptHandler (some tup) (some n) (b₀ :: suite) pos']) (SP X pins D) X.xe u3) X.xe u2) X.xe u1) (fun u s' xx => ?_)).run [] s σ H _ (I.toTry _) h) (fun f s1 hsp => ?_) (fun e s1 he => he))
  · obtain ⟨a, B, sI, pins2, σ2, H2, cls, d, rfl, J0, nb, up, sky, na, os, ag, hm, yes⟩ := xx
    have J := J0.ofTry okX
    rw [hs] at sky
    (show wpAny (model X.prog X.w) X.A (noteFrame (.ref a) X.env) _ _ _)
    refine L2N.Sky.land (L := X.env.locals) L2N.Zn.steady frX hf sky fun h3 fl3 up3 => ?_
    have J3 := J.landed nb fl3.1 (s' := { s' with heap := h3 }) (up.trans up3) os ag
    obtain ⟨oe, vs, he, hz, hd⟩ := fl3.there
    have nfr : a ∉ frs (X.env :: X.outer) := fun m => by
      obtain ⟨_, o2, e2, z⟩ := fl3.2.2.1.mem m
      rw [he] at e2; cases e2
      exact z _ hd
    have nL : a ≠ X.env.locals := fun z => nfr (List.mem_filterMap.mpr ⟨X.env, List.mem_cons_self, by rw [hf, z]⟩)
    have nF : a ∉ X.fs := fun m => by
      obtain ⟨e, he2, q⟩ := List.mem_filterMap.mp m
      exact nfr (List.mem_filterMap.mpr ⟨e, List.mem_cons_of_mem _ he2, q⟩)
    have S3 := J3.suite he hd na nL nF
    refine wpAny_handleBy_cons (codeAny_handlers_test ?_) (by intro q; cases q)
    rw [← hh]
    have nm : ∀ {x : Str} {c : Value}, Names X x c → Names (X.suite a ((a, oe) :: (X.pn ++ pins))) x c := fun h => h
    refine wpAny_Tuple ?_
    refine wpAny_items_cons (look_name S3 (nm n1) ?_)
    refine wpAny_items_cons (look_name S3 (nm n2) ?_)
    refine wpAny_items_cons (look_name S3 (nm n3) ?_)
    refine wpAny_items_nil ⟨(by size_fits), ?_⟩
    have kp : ∀ q o, h3.get? q = some o → (h3.push ({ cls := .type "tuple", data := .seq [c1, c2, c3].toArray } : Obj)).get? q = some o := fun q o => Heap.get?_push_of_some _
    have LT : PySem.W.Looks (model X.prog X.w) (h3.push ({ cls := .type "tuple", data := .seq [c1, c2, c3].toArray } : Obj)) (typeOf (.ref a)) cls := fun A Q E s k q => wpAny_typeOf_ref (k _ _ (kp _ _ he)) (by rw [hz.1]; exact q)
    refine (PySem.W.exm_tup3 (M := model X.prog X.w) (J3.kIn.keeps kp) LT (Heap.get?_push_size h3 rfl) hm).here ?_
    generalize h3.push ({ cls := .type "tuple", data := .seq [c1, c2, c3].toArray } : Obj) = hq at kp
    have flq : HandSPX.FlyingZ B (X.env :: X.outer) a (L2N.Zn cls d) hq := by
      obtain ⟨f1, f2, f3, o1, w1, T, oT, w2, g1, g2, g3, g4, g5, g6, g7, g8, g9⟩ := fl3
      exact ⟨fun b o e => kp _ _ (f1 b o e), f2, f3.of_keeps fun b o e _ => ⟨o, kp _ _ e, rfl⟩, o1, w1, T, oT, w2, kp _ _ g1, g2, g3, g4, g5, g6, kp _ _ g7, g8, g9⟩
    refine codeAny_handlers_suite_as (HandSPX.lands_againZ flq fun h4 fl4 up4 => ?_)
    have upq : sI.heap.UpToSlots h4 := ((up.trans up3).trans (Heap.UpToSlots.of_keeps kp)).trans up4
    have J4 := J.landed nb fl4.1 (s' := { s' with heap := h4 }) upq os ag
    obtain ⟨oe4, vs4, he4, hz4, hd4⟩ := fl4.there
    have S4 := J4.suite he4 hd4 na nL nF
    refine store_ok (X := X.suite a ((a, oe4) :: (X.pn ++ pins))) (v := .ref a) S4 hN hi (.inl hln) rfl (fun s5 S5 => wpAny_mono ((hsu a oe4 cls d (X.pn ++ pins) hz4 ⟨_, hd4⟩).run [] s5 _ H2 _ S5 (yes a na)) (fun f s6 hsp => ?_) (fun _ _ z => False.elim z)) (.inr hln)
    cases f with
    | next =>
      obtain ⟨σ6, H6, S6, q6⟩ := hsp
      exact gone_ok (S6.unsuite okX) hN hi hln fun s7 J7 => ⟨_, _, J7, q6⟩
    | brk => obtain ⟨_, _, _, q⟩ := hsp; exact q.elim
    | cont => obtain ⟨_, _, _, q⟩ := hsp; exact q.elim
    | ret u => obtain ⟨_, _, _, _, _, q⟩ := hsp; exact q.elim
  · cases f with
    | next =>
      obtain ⟨σ2, H2, J, q⟩ := hsp
      exact wpAny_execs_nil ⟨σ2, H2, J.ofTry okX, q⟩
    | brk => obtain ⟨_, _, _, q⟩ := hsp; exact q.elim
    | cont => obtain ⟨_, _, _, q⟩ := hsp; exact q.elim
    | ret u => obtain ⟨_, _, _, _, _, q⟩ := hsp; exact q.elim
end
end L3
set_option Elab.async false
set_option linter.all false
set_option maxRecDepth 100000
set_option maxHeartbeats 2000000
namespace L3
open PySem PySem.Spec PyProof.Rows L2
/-- a def called while an exception is handled, its promise told of the very state -/
theorem run_hot {CX : CXT} {P : Program} {w : World} {K : PySem.W.Frag} {mg : Str → Option Value} {base : Heap} {k : Nat} {g : Addr} {x qual : Str} {params : Arguments} {body : List Stmt} {scope : Scope} {dvs : List V} {kws : List (Str × V)} {fd : FuncData} {N ps : List Str} (F : FunD K x qual params body scope dvs kws g fd) (S : FnScope N ps scope)
    {A : Around} {outer : List Env} {s : Shared} {H : Hp} {args : Args} {us : List Value} {vs : List V} {Q : VK} {E : XK} {p : Addr × Obj} (hr : L2H.RoomH (k + 1) A) (hot : L2H.Hot1 A p) (pin : L2H.PinOk outer H s p) (e0 : Env0 P w K mg base A outer s H) (hb : BindsTo s fd args (ps.zip us)) (r : Vals vs us) (hl : vs.length = ps.length)
    (hbody : ∀ cdv, L2H.RoomH k (A.deeper (envOfC qual scope s.heap.objs.size g cdv)) → ∃ t, PSs (L2H.cxH CX P w K mg base N qual scope g cdv A outer s H E p) body t ∧ t { nx := fun _ H' => Q .non H', rt := Q } (L2.start N vs) H) :
    codeAny (model P w) A (.call (.ref g) args) (CR CX outer P w H s Q E) s := by
  obtain ⟨oc, od, dV, kV, doc, pm, an, cdv, ct, osl, rfl, lk, hcd, _, _⟩ := F.ex
  have kin : K.In s.heap := e0.mod.kin.keeps fun b o e => (e0.bs b o e).1
  have lim : s.heap.NoLimit := e0.mod.nolimit.keeps fun b o e => (e0.bs b o e).1
  have kinds : ∀ y ∈ ps.zip us, scope.names.lookup y.1 = some .local ∨ (scope.names.lookup y.1 = some .cell ∧ ((cellsFrom (s.heap.objs.size + 1) scope.names []).lookup y.1).isSome = true) := fun ⟨n, v⟩ hy =>
    (S.par n (List.of_mem_zip hy).1).elim .inl fun q => .inr ⟨q, PySem.W.cellsFrom_some _ _ _ (.inl q)⟩
  refine codeAny_call_function hr.depth (kin _ _ lk) rfl S.co S.gen rfl (PySem.W.codeRec_of kin hcd) (hb _ _ _ _ (wpAny_newFunctionEnv_cells S.kind kinds fun env he s1 x1 => ?_))
  subst he
  refine ⟨lim.keeps x1.toInCall.keep, codeAny_func ?_⟩
  obtain ⟨t, ht, hq⟩ := hbody cdv (hr.deeper _)
  have I : Inv (L2H.cxH CX P w K mg base N qual scope g cdv A outer s H E p) [] (L2.start N vs) H s1 := L2H.inv_startH S pin e0 hl r x1
  refine wpAny_mono (ht.run [] s1 (L2.start N vs) H _ I hq) (fun fl s' hs => ?_) fun e s' hs => hs
  cases fl with
  | ret u => obtain ⟨v, σ', H', J, rv, q⟩ := hs; exact ⟨v, H', J.os, J.bare, J.base, J.hok, rv, q⟩
  | next => obtain ⟨σ', H', J, q⟩ := hs; exact ⟨V.non, H', J.os, J.bare, J.base, J.hok, (rfl : RelV V.non Value.none), q⟩
  | brk => obtain ⟨_, _, _, q⟩ := hs; exact q.elim
  | cont => obtain ⟨_, _, _, q⟩ := hs; exact q.elim
def findN : List Str → List D → Str → Option D
  | n :: ns, d :: ds, f => if n = f then some d else findN ns ds f
  | _, _, _ => none
theorem findN_rep {K : PySem.W.Frag} {F : Hp} {f : Str} : ∀ {ns : List Str} {ds : List D} {xs : List V} {d : D}, Reps K F ds xs → findN ns ds f = some d → ∃ v, (ns.zip xs).lookup f = some v ∧ Rep K F d v
  | [], _, _, _, _, h => by simp [findN] at h
  | n :: ns, [], _, _, _, h => by simp [findN] at h
  | n :: ns, e :: ds, _, d, ⟨x, r, hx, h1, h2⟩, h => by
    subst hx
    by_cases c : n = f
    · subst c
      have h' : (if n = n then some e else findN ns ds n) = some d := h
      rw [if_pos rfl] at h'
      cases h'
      exact ⟨x, by rw [List.zip_cons_cons, List.lookup_cons_self], h1⟩
    · simp only [findN, if_neg c] at h
      obtain ⟨v, hv, rv⟩ := findN_rep h2 h
      refine ⟨v, ?_, rv⟩
      have nb : (f == n) = false := by
        rw [beq_eq_false_iff_ne]; exact fun e => c e.symm
      rw [List.zip_cons_cons, List.lookup_cons, nb]
      exact hv
theorem pe_xfp {Y : Cx} {a C dd : Addr} {oe : Obj} {e : Expr} {te : TE} {pos : Pos} {n : Str} (T : XfC Y.K C) (no : PySem.W.findIn Y.K (.ref C) n = some none) (hz : Zc (.ref C) (some dd) oe) (hf : ∃ vs, oe.data = .fields vs) (hp : (a, oe) ∈ Y.pn) (he : PE Y e te)
    (hb : attributeBase e n Y.env (eval e Y.env) = eval e Y.env := by rfl) : PE Y (.Attribute e n pos) (fun σ H Q => te σ H fun x H1 => x = .ref a ∧ ∃ fs v, H1 dd = some (.xd fs) ∧ fs.lookup n = some v ∧ Q v H1) := by
  refine ⟨fun pins s σ H Q I h => attr_of hb (thn (he.run pins s σ H _ I h) fun u s1 ⟨x, H1, I1, rx, ex, fs, v, ea, l, q⟩ => ?_)⟩
  subst ex
  obtain rfl : u = Value.ref a := rx
  have ha := (I1.pin (a, oe) (List.mem_append_left _ hp)).1
  obtain ⟨vs, hd⟩ := hf
  obtain ⟨mA, ns, rel⟩ := (I1.hok dd _ ea : ObjOk Y.prog Y.w H1 s1.heap dd (.xd fs))
  obtain ⟨od, ho, hl⟩ := lookIn_ns ns
  obtain ⟨u, hu, ru⟩ := RelO.some_of (v := v) (o := mA n) (by rw [← l]; exact rel n)
  have J : PySem.W.InstAt s1.heap a oe C (some od) := ⟨ha, hz.1, by unfold PySem.W.notCls; rw [hd] <;> rfl, by rw [hz.2]; exact ho⟩
  exact HandSPX.exc_get I1.kIn J T.ga T.gg T.exC (PySem.W.findObj_own T.hdC no rfl (by rw [hl, hu])) (handed_of ru) ⟨v, H1, I1.tok _, ru, q⟩
def dXf (a dd : Addr) (f : Str) (te : DE) : DE := fun env M Q => te env M fun d M1 => match d with
  | .exc a' dd' ns ds => (a' = a ∧ dd' = dd) ∧ match findN ns ds f with
    | some v => Q v M1
    | none => False
  | _ => False
theorem pd_xf {Y : Cx} {a C dd : Addr} {oe : Obj} {e : Expr} {te : DE} {pos : Pos} {n : Str} (T : XfC Y.K C) (no : PySem.W.findIn Y.K (.ref C) n = some none) (hz : Zc (.ref C) (some dd) oe) (hf : ∃ vs, oe.data = .fields vs) (hp : (a, oe) ∈ Y.pn) (he : PDE Y e te)
    (hb : attributeBase e n Y.env (eval e Y.env) = eval e Y.env := by rfl) : PDE Y (.Attribute e n pos) (dXf a dd n te) :=
  pe_imp (pe_xfp T no hz hf hp he hb) fun σ H Q ⟨R, F, env, M, Qd, at0, en, h, k⟩ => ⟨R, F, env, M, _, at0, en, h, fun F1 H1 M1 d v s1 a1 r1 q1 => by
    split at q1
    · rename_i a' dd' ns ds
      obtain ⟨⟨e1, e2⟩, q1⟩ := q1
      subst e1 e2
      obtain ⟨ev, xs, fx, hl, rs⟩ := r1
      split at q1
      · rename_i g hg
        obtain ⟨z, hz2, rz⟩ := findN_rep rs hg
        exact ⟨ev, _, z, a1.fz _ _ fx, hz2, k F1 H1 M1 g z s1 a1 rz q1⟩
      · exact q1.elim
    · exact q1.elim⟩
end L3
set_option Elab.async false
set_option linter.all false
set_option maxRecDepth 100000
set_option maxHeartbeats 2000000
namespace L3
open PySem PySem.Spec PyProof.Rows L2
theorem pe_cases {X : Cx} {e : Expr} {t : TE} (h : ∀ σ H Q, t σ H Q → ∃ t', PE X e t' ∧ t' σ H Q) : PE X e t := ⟨fun pins s σ H Q I q => by
  obtain ⟨t', h1, h2⟩ := h σ H Q q
  exact h1.run pins s σ H Q I h2⟩
def isS (ws : List Str) (w : Str) : Bool := (ws.map D.str).any fun z => eqD z (.str w)
def plainW : Str := "BadSign BadName BadNumber BadDeed Full Clash NothingLeft"
def fieldOf (ns : List Str) (xs : List D) : Option D := match findN ns xs "word" with
  | some (.str w) => if isS ["Taken", "NoName"] w = true then findN ns xs "name" else if eqD (.str w) (.str "TooMany") = true then findN ns xs "most" else if eqD (.str w) (.str "Still") = true then findN ns xs "strip" else
    if eqD (.str w) (.str "NoSaid") = true then findN ns xs "number" else if isS (Txt.split plainW " ") w = true then some .non else findN ns xs "at"
  | _ => none
/-- what the law's look at an exception does -/
structure FieldOk (P : Program) (w : World) (K : PySem.W.Frag) (mg : Str → Option Value) (base : Heap) (k : Nat) (exs : List Str) : Prop where
  xf : ∀ nm ∈ exs, XfC K (He.ga K nm) ∧ PySem.W.findIn K (.ref (He.ga K nm)) "word" = some none
  ex : ∃ g fd, mg "_law_field" = some (.ref g) ∧ PySem.W.keepIn K (.ref g) = true ∧ Binds K fd [("_law_e" : Str)] [] ∧
    ∀ (nm : Str) (a dd : Addr) (oe : Obj) (A : Around) (outer : List Env) (s : Shared) (H : Hp) (args : Args) (Q : VK) (R F : Hp) (M : Mp) (ns : List Str) (xs : List D) (d : D), nm ∈ exs → L2H.RoomH k A → L2H.Hot1 A (a, oe) → L2H.PinOk outer H s (a, oe) → Zc (.ref (He.ga K nm)) (some dd) oe → (∃ vs, oe.data = .fields vs) →
      Env0 P w K mg base A outer s H → BindsTo s fd args (([("_law_e" : Str)]).zip [Value.ref a]) → At K R F M H → Rep K F (.exc a dd ns xs) (.ref a) → fieldOf ns xs = some d → KD K R F (fun d' M' => d' = d ∧ M' = M) Q → codeAny (model P w) A (.call (.ref g) args) (CR (L2N.CX P w) outer P w H s Q E0) s
theorem field_ok {P : Program} {w : World} {K : PySem.W.Frag} {mg : Str → Option Value} {base : Heap} {k : Nat} {exs : List Str} {st : Stmt} {N : List Str} {t : Addr → Addr → DS} (xf : ∀ nm ∈ exs, XfC K (He.ga K nm) ∧ PySem.W.findIn K (.ref (He.ga K nm)) "word" = some none) (d : DefAt K mg "_law_field" st) (S : FnScope N [("_law_e" : Str)] (defScope st))
    (bind : ∀ (kV doc pm : Value) (an : Option Addr) (cdv ct : Value) (us : List Value), us.length = ([("_law_e" : Str)]).length → bindArgs (PySem.W.fnOf "_law_field" "_law_field" (defArgs st) (defBody st) (defScope st) .none kV doc pm an cdv ct) ⟨us, []⟩ = pure (([("_law_e" : Str)]).zip us))
    (hb : ∀ nm ∈ exs, ∀ (a dd : Addr) (oe : Obj), Zc (.ref (He.ga K nm)) (some dd) oe → (∃ vs, oe.data = .fields vs) → ∀ f cdv A outer s H E, L2H.RoomH k (A.deeper (envOfC "_law_field" (defScope st) s.heap.objs.size f cdv)) → PDSs (L2H.cxH (L2N.CX P w) P w K mg base N "_law_field" (defScope st) f cdv A outer s H E (a, oe)) (defBody st) (t a dd))
    (hr : ∀ a dd ns xs d M Q, fieldOf ns xs = some d → Q d M → t a dd { nx := fun _ M' => Q .non M', rt := Q } (startD N [.exc a dd ns xs]) M) : FieldOk P w K mg base (k + 1) exs := by
  obtain ⟨g, fd, F, hm⟩ := d.ex
  refine ⟨xf, g, fd, hm, F.kp, F.bindsN bind, fun nm a dd oe A outer s H args Q R F' M ns xs d hn hr' hot pin hz hf e0 hb' a0 r0 hd kd => ?_⟩
  refine run_hot (CX := L2N.CX P w) F S hr' hot pin e0 hb' (vs := [.ref a]) (.cons (rfl : RelV (.ref a) (.ref a)) .nil) rfl fun cdv hroom => ?_
  exact ⟨_, hb nm hn a dd oe hz hf g cdv A outer s H E0 hroom, R, F', startD N [.exc a dd ns xs], M, { nx := fun _ M' => .non = d ∧ M' = M, rt := fun d' M' => d' = d ∧ M' = M }, a0, start_env (ds := [.exc a dd ns xs]) (vs := [.ref a]) ⟨.ref a, [], rfl, r0, rfl⟩, hr a dd ns xs d M (fun d2 M2 => d2 = d ∧ M2 = M) hd ⟨rfl, rfl⟩, ⟨fun F1 H1 M1 env1 σ1 s1 a1 e1 q => kd F1 H1 M1 .non .non s1 a1 rfl q, kd, fun _ _ _ _ _ _ _ _ q => q.elim, fun _ _ _ _ _ _ _ _ q => q.elim⟩⟩
section
variable {X : Cx}
theorem opd_inH (hu : X.A.units + 65 < cLine) : OpD X (compareOp .In) (rInDD id) := ⟨_, op_in_str.or (((op_inD (by omega)).or (op_inU (by omega))).or (op_inT (by omega))),
  in_served (rL := fun x y H Q => rInD X.K x y H Q ∨ rInU X.K id x y H Q) id (fun i j H Q q => ⟨i, j, rfl, rfl, q⟩) fun x y d ds H Q d1 d2 s1 q => d2.elim (fun z => .inl ⟨d, ds, d1, z.1, s1, z.2, q⟩) fun z => .inr ⟨d, ds, d1, z.1, s1, z.2, q⟩⟩
theorem opd_eqH (hu : X.A.units + 64 < cLine) : OpD X (compareOp .Eq) (rEqDD id) := ⟨_, op_eqD hu, fun R F M H d e x y Qd Q a r1 r2 ⟨⟨l1, l2⟩, q⟩ kd =>
  let ⟨d1, s1⟩ := py_shaped (res_rep a r1) l1
  let ⟨d2, s2⟩ := py_shaped (res_rep a r2) l2
  ⟨_, _, d1, d2, s1, s2, kd F H M (.bl _) _ (Same.refl _) a rfl q⟩⟩
def tWord (exs : List Str) (K : PySem.W.Frag) (i : Nat) (a : Addr) (cls : Value) (d : Option Addr) : TE := fun σ H Q => ∃ nm dd, nm ∈ exs ∧ cls = .ref (He.ga K nm) ∧ d = some dd ∧ σ[i]? = some (some (.ref a)) ∧ ∃ fs v, H dd = some (.xd fs) ∧ fs.lookup (("word" : Str)) = some v ∧ Q v H
def tField (exs : List Str) (K : PySem.W.Frag) (i : Nat) (a : Addr) (cls : Value) (d : Option Addr) : TE := fun σ H Q => ∃ nm dd, nm ∈ exs ∧ cls = .ref (He.ga K nm) ∧ d = some dd ∧ σ[i]? = some (some (.ref a)) ∧
  ∃ R F M ns xs g, At K R F M H ∧ Rep K F (.exc a dd ns xs) (.ref a) ∧ fieldOf ns xs = some g ∧ KD K R F (fun d' M' => d' = g ∧ M' = M) Q
theorem pe_word {exs : List Str} {i : Nat} {a : Addr} {oe : Obj} {cls : Value} {d : Option Addr} {pn : List (Addr × Obj)} {x : Str} {p pos : Pos} {k : Nat} (T : FieldOk X.prog X.w X.K X.mg X.base k exs) (hz : L2N.Zn cls d oe) (hf : ∃ vs, oe.data = .fields vs)
    (hN : X.N[i]? = some x := by rfl) (hv : Vis X.env.scope x := by first | exact Or.inl rfl | exact Or.inr (Or.inl rfl)) (hd : (x == ("__debug__" : Str)) = false := by decide) (hcd : (x == ("__classdict__" : Str)) = false := by decide)
    (hb : attributeBase (.Name x p) "word" X.env (eval (.Name x p) X.env) = eval (.Name x p) X.env := by rfl) : PE (X.suite a ((a, oe) :: pn)) (.Attribute (.Name x p) "word" pos) (tWord exs X.K i a cls d) :=
  pe_cases fun σ H Q ⟨nm, dd, hn, e1, e2, h0, fs, v, h1, h2, q⟩ => by
    subst e1 e2
    obtain ⟨xc, no⟩ := T.xf nm hn
    exact ⟨_, pe_xfp (Y := X.suite a ((a, oe) :: pn)) xc no hz.zc hf List.mem_cons_self (pe_var (X := X.suite a ((a, oe) :: pn)) (i := i) hN hv hd hcd) hb, .ref a, h0, rfl, fs, v, h1, h2, q⟩
theorem pe_field {exs : List Str} {i : Nat} {a : Addr} {oe : Obj} {cls : Value} {d : Option Addr} {pn : List (Addr × Obj)} {x : Str} {p1 p2 pos : Pos} {k : Nat} (T : FieldOk X.prog X.w X.K X.mg X.base k exs) (hr : L2H.RoomH k (X.A.mark (some (.ref a)))) (hz : L2N.Zn cls d oe) (hf : ∃ vs, oe.data = .fields vs) (hg : Gl X "_law_field" := by rfl)
    (hN : X.N[i]? = some x := by rfl) (hv : Vis X.env.scope x := by first | exact Or.inl rfl | exact Or.inr (Or.inl rfl)) (hd : (x == ("__debug__" : Str)) = false := by decide) (hcd : (x == ("__classdict__" : Str)) = false := by decide)
    (he : starEach [.Name x p2] X.env = (false, eval (.Name x p2) X.env) :: starEach [] X.env := by rfl) : PE (X.suite a ((a, oe) :: pn)) (.Call (.Name "_law_field" p1) [.Name x p2] [] pos) (tField exs X.K i a cls d) := by
  refine ⟨fun pins s σ H Q I ⟨nm, dd, hn, e1, e2, h0, R, F, M, ns, xs, g, a0, r0, hg0, kd⟩ => ?_⟩
  subst e1 e2
  obtain ⟨f, fd, hm, hk, hb, run⟩ := T.ex
  refine wpAny_Call_Name_kw (ld_glob (X := X.suite a ((a, oe) :: pn)) I hg hm ?_ (by decide))
  refine PySem.W.callWith_K (h₀ := X.base) I.ok.mod.kin hk (thn ((pa_cons (pe_var (X := X.suite a ((a, oe) :: pn)) (pos := p2) (i := i) hN hv hd hcd) pa_nil he).run pos pins s σ H (fun vs H1 => vs = [.ref a] ∧ H1 = H) I ⟨.ref a, h0, rfl, rfl⟩) fun us s1 ⟨vs, H1, I1, r1, ev, eH⟩ => ⟨I1.kIn, ?_⟩) he rfl
  subst ev
  rw [eH] at I1
  cases r1 with
  | cons ra rn => ?_
  cases rn
  cases (show _ = Value.ref a from ra)
  have P1 := I1.pin (a, oe) (List.mem_append_left _ List.mem_cons_self)
  obtain ⟨vs0, hd0⟩ := hf
  have hot : L2H.Hot1 (X.A.mark (some (.ref a))) (a, oe) := ⟨rfl, vs0, hd0, hz.2.2 vs0 hd0⟩
  have pin : L2H.PinOk X.stack H s1 (a, oe) := ⟨P1.1, P1.2.1, fun hmm => (List.mem_cons.mp (I1.stkSub a hmm)).elim P1.2.2.1 P1.2.2.2.1, P1.2.2.2.2⟩
  have bd := hb s1 [Value.ref a] I1.kIn rfl
  rw [List.append_nil] at bd
  refine wpAny_call (codeAny_mono (run nm a dd oe (X.A.mark (some (.ref a))) X.stack s1 H ⟨[.ref a], []⟩ Q R F M ns xs g hn hr hot pin hz.zc ⟨vs0, hd0⟩ I1.env0 bd a0 r0 hg0 kd) fun r s2 hq => ?_)
  cases r with
  | error e => exact passE0 pins σ _ _ e s2 I1 hq
  | ok fl =>
    cases fl with
    | ret u => exact I1.after hq
    | next => exact False.elim hq
    | brk => exact False.elim hq
    | cont => exact False.elim hq
end
def tTried (K : PySem.W.Frag) (cs : List Value) (exs : List Str) (f c : Addr) (q : Str) (tl : XK → Hp → VK → Prop) : TS := tSeq (tAsg (tTup (tCons (tC .non) (tCons (tC (.str "")) (tCons (tC .non) tNil)))) (gTup K 3 (gCons (gName 1) (gCons (gName 2) (gCons (gName 3) gNil)))))
  (tSeq (tTry3 K cs 4 (fun W => tAsg (tAsk W 0 f c q tl) (gName 1)) (fun a cls d => tPar 2 3 (tCons (tWord exs K 4 a cls d) (tCons (tField exs K 4 a cls d) tNil)))) (tRet (tTup (tCons (tVar 1) (tCons (tVar 2) (tCons (tVar 3) tNil))))))
abbrev triedN : List Str := ["_law_ask", "_law_told", "_law_word", "_law_field_here", "_law_e"]
/-- what is wished of the value, of an exception -/
def tWv (Q : VK) : VK := fun v H' => ∀ p, H' p = none → Q (.ref p) (upd H' p (.tup [v, .str "", .non]))
def tWx (K : PySem.W.Frag) (cs : List Value) (exs : List Str) (Q : VK) : XK := fun cls d H' => PySem.W.exmAny K cls cs = some true ∧ ∃ nm dd R F M ns xs ys w g, nm ∈ exs ∧ cls = .ref (He.ga K nm) ∧ d = some dd ∧ At K R F M H' ∧ F dd = some (.xd (ns.zip ys)) ∧ ns.length = xs.length ∧ Reps K F xs ys ∧ findN ns xs "word" = some (.str w) ∧ fieldOf ns xs = some g ∧
  KD K R F (fun g' M' => g' = g ∧ M' = M) fun v H2 => ∀ p, H2 p = none → Q (.ref p) (upd H2 p (.tup [.non, .str w, v]))
structure Mono (tl : XK → Hp → VK → Prop) : Prop where
  up : ∀ (E : XK) (H : Hp) (Q Q' : VK), (∀ v H', Q v H' → Q' v H') → tl E H Q → tl E H Q'
  lay : ∀ (E : XK) (H : Hp) (Q : VK) (p : Addr) (o : HO), tl E H Q → H p = none → tl E (upd H p o) Q
theorem mono_up {K : PySem.W.Frag} {tb : DEX} {σ : L2.St} : Mono fun E H Q => upX K E tb σ H Q where
  up := fun E H Q Q' h ⟨R, F, env, M, Qd, Ed, a, en, t, k, kx⟩ => ⟨R, F, env, M, Qd, Ed, a, en, t, fun F1 H1 M1 d v s1 a1 r1 q1 => h _ _ (k F1 H1 M1 d v s1 a1 r1 q1), kx⟩
  lay := fun E H Q p o ⟨R, F, env, M, Qd, Ed, a, en, t, k, kx⟩ hp => let ⟨a2, s2⟩ := a.laid hp o; ⟨R, upd F p o, env, M, Qd, Ed, a2, en.mono s2, t, k.mono s2, kx.mono s2⟩
theorem tried_run {K : PySem.W.Frag} {cs : List Value} {exs : List Str} {f c : Addr} {q : Str} {tl : XK → Hp → VK → Prop} {H : Hp} {Q : VK} (mo : Mono tl) (hc : H c = some (LamX.CodeO c q)) (h : tl (tWx K cs exs Q) H (tWv Q)) :
    tTried K cs exs f c q tl { nx := fun _ H' => Q .non H', rt := Q } (L2.start triedN [.ref f]) H := by
  refine ⟨(by show 3 ≤ sizeLine; decide), fun p0 hp0 => ⟨p0, _, rfl, .inl (.inl upd_same), rfl, _, _, rfl, _, _, rfl, _, _, rfl, rfl, ?_⟩⟩
  have hc : upd H p0 (.tup [.non, .str "", .non]) c = some (LamX.CodeO c q) := by rw [upd_ne (fun e => by rw [e, hp0] at hc; cases hc)]; exact hc
  have h := mo.lay _ _ _ p0 (.tup [.non, .str "", .non]) h hp0
  refine ⟨rfl, hc, tWx K cs exs Q, fun cls d H' ⟨hm, nm, dd, R, F, M, ns, xs, ys, w, g, hn, e1, e2, a0, fd, hl, rs, hw, hg, kd⟩ => ?_, ?_⟩
  · obtain ⟨v0, hv0, r0⟩ := findN_rep rs hw
    cases (show v0 = V.str w from r0.1)
    refine ⟨hm, fun a na => ⟨nm, dd, hn, e1, e2, rfl, _, _, a0.fz _ _ fd, hv0, ?_⟩⟩
    refine ⟨nm, dd, hn, e1, e2, rfl, R, F, M, ns, xs, g, a0, ⟨rfl, ys, fd, hl, rs⟩, hg, fun F1 H1 M1 d1 v1 s1 a1 r1 q1 => ?_⟩
    refine ⟨_, _, rfl, ?_⟩
    refine ⟨_, rfl, _, rfl, _, rfl, (by show 3 ≤ sizeLine; decide), ?_⟩
    exact kd F1 H1 M1 d1 v1 s1 a1 r1 q1
  · exact mo.up _ _ _ _ (fun v H' hv => ⟨_, rfl, _, rfl, _, rfl, (by show 3 ≤ sizeLine; decide), hv⟩) h
def MonoX (tl : XK → Hp → VK → Prop) : Prop := ∀ (E E' : XK) (H : Hp) (Q : VK), (∀ cls d H', E cls d H' → E' cls d H') → tl E H Q → tl E' H Q
theorem monoX_up {K : PySem.W.Frag} {tb : DEX} {σ : L2.St} : MonoX fun E H Q => upX K E tb σ H Q := fun E E' H Q h ⟨R, F, env, M, Qd, Ed, a, en, t, k, kx⟩ => ⟨R, F, env, M, Qd, Ed, a, en, t, k, fun F1 H1 M1 nm dd ns ds xs s1 a1 f1 l1 r1 q1 => h _ _ _ (kx F1 H1 M1 nm dd ns ds xs s1 a1 f1 l1 r1 q1)⟩
/-- a def that takes a lambda and calls it -/
structure Taker (P : Program) (w : World) (K : PySem.W.Frag) (mg : Str → Option Value) (base : Heap) (k n : Nat) (x : Str) (WX : VK → XK) (WV : VK → VK) : Prop where
  ex : ∃ g, mg x = some (.ref g) ∧ PySem.W.keepIn K (.ref g) = true ∧
    ∀ (A : Around) (outer : List Env) (s : Shared) (H : Hp) (f c : Addr) (q : Str) (tl : XK → Hp → VK → Prop) (j : Nat) (Q : VK), Room k A → j + n ≤ k → K.In s.heap → Env0 P w K mg base A outer s H → Cal P w K mg base j q f c tl (frs outer) s H → Mono tl → MonoX tl → H c = some (LamX.CodeO c q) → tl (WX Q) H (WV Q) →
      codeAny (model P w) A (.call (.ref g) ⟨[.ref f], []⟩) (CR (L2N.CX P w) outer P w H s Q E0) s
theorem Taker.mono {P : Program} {w : World} {K : PySem.W.Frag} {mg : Str → Option Value} {base : Heap} {k k' n : Nat} {x : Str} {WX : VK → XK} {WV : VK → VK} (T : Taker P w K mg base k n x WX WV) (h : k ≤ k') (hn : k' ≤ k) : Taker P w K mg base k' n x WX WV := by
  have e : k' = k := by omega
  subst e; exact T
abbrev TriedOk (P : Program) (w : World) (K : PySem.W.Frag) (mg : Str → Option Value) (base : Heap) (k : Nat) (cs : List Value) (exs : List Str) : Prop := Taker P w K mg base k 2 "_law_tried" (tWx K cs exs) tWv
theorem tried_ok {P : Program} {w : World} {K : PySem.W.Frag} {mg : Str → Option Value} {base : Heap} {k : Nat} {cs : List Value} {exs : List Str} {st : Stmt} (d : DefAt K mg "_law_tried" st) (S : FnScope triedN [("_law_ask" : Str)] (defScope st))
    (bind : ∀ (kV doc pm : Value) (an : Option Addr) (cdv ct : Value) (us : List Value), us.length = ([("_law_ask" : Str)]).length → bindArgs (PySem.W.fnOf "_law_tried" "_law_tried" (defArgs st) (defBody st) (defScope st) .none kV doc pm an cdv ct) ⟨us, []⟩ = pure (([("_law_ask" : Str)]).zip us))
    (hb : ∀ (g : Addr) (cdv : Value) (A : Around) (outer : List Env) (s : Shared) (H : Hp) (f c : Addr) (q : Str) (tl : XK → Hp → VK → Prop) (j : Nat), j + 1 ≤ k → Cal P w K mg base j q f c tl (frs outer) s H → Room k (A.deeper (envOfC "_law_tried" (defScope st) s.heap.objs.size g cdv)) →
      PSs (bodyX P w K mg base triedN "_law_tried" st g cdv A outer s H E0) (defBody st) (tTried K cs exs f c q tl)) : TriedOk P w K mg base (k + 1) cs exs := by
  obtain ⟨g, fd, F, hm⟩ := d.ex
  refine ⟨g, hm, F.kp, fun A outer s H f c q tl j Q hr hj kin e0 C mo mx hc h => ?_⟩
  have bd := F.bindsN bind s [Value.ref f] kin rfl
  rw [List.append_nil] at bd
  obtain ⟨oc, od, dV, kV, doc, pm, an, cdv, ct, osl, rfl, lk, hcd, _, _⟩ := F.ex
  exact LamX.run_ofS (CX := L2N.CX P w) lk hcd S hr e0 bd (vs := [.ref f]) (.cons (rfl : RelV (.ref f) (.ref f)) .nil) rfl fun hr2 => ⟨_, hb g cdv A outer s H f c q tl j (by omega) C hr2, tried_run mo hc h⟩
abbrev refusedN : List Str := ["_law_ask"]
def tRefT (K : PySem.W.Frag) (cs : List Value) (exs : List Str) (f c : Addr) (q : Str) (tl : XK → Hp → VK → Prop) : TE := fun σ H Q => σ[0]? = some (some (.ref f)) ∧ H c = some (LamX.CodeO c q) ∧ tl (tWx K cs exs Q) H (tWv Q)
theorem pe_tried {Z : Cx} {k j : Nat} {cs : List Value} {exs : List Str} {f c : Addr} {q : Str} {tl : XK → Hp → VK → Prop} {p1 p2 pos : Pos} (T : TriedOk Z.prog Z.w Z.K Z.mg Z.base k cs exs) (C : Cal Z.prog Z.w Z.K Z.mg Z.base j q f c tl Z.fs Z.s_0 Z.H_0) (mo : Mono tl) (mx : MonoX tl) (hx : Z.ex = []) (hs : Z.stack = Z.env :: Z.outer) (hr : Room k Z.A) (hj : j + 2 ≤ k) (hg : Gl Z "_law_tried" := by rfl)
    (hN : Z.N[0]? = some ("_law_ask" : Str) := by rfl) (hv : Vis Z.env.scope "_law_ask" := by first | exact Or.inl rfl | exact Or.inr (Or.inl rfl)) (he : starEach [.Name "_law_ask" p2] Z.env = (false, eval (.Name "_law_ask" p2) Z.env) :: starEach [] Z.env := by rfl) :
    PE Z (.Call (.Name "_law_tried" p1) [.Name "_law_ask" p2] [] pos) (tRefT Z.K cs exs f c q tl) := by
  refine ⟨fun pins s σ H Q I ⟨h0, hc, ht⟩ => ?_⟩
  obtain ⟨g, hm, hk, run⟩ := T.ex
  refine wpAny_Call_Name_kw (ld_glob I hg hm ?_ (by decide))
  refine PySem.W.callWith_K (h₀ := Z.base) I.ok.mod.kin hk (thn ((pa_cons (pe_var (pos := p2) (i := 0) hN hv (by decide) (by decide)) pa_nil he).run pos pins s σ H (fun vs H1 => vs = [.ref f] ∧ H1 = H) I ⟨.ref f, h0, rfl, rfl⟩) fun us s1 ⟨vs, H1, I1, r1, ev, eH⟩ => ⟨I1.kIn, ?_⟩) he rfl
  subst ev
  rw [eH] at I1
  cases r1 with
  | cons ra rn => ?_
  cases rn
  cases (show _ = Value.ref f from ra)
  refine wpAny_call (codeAny_mono (run Z.A Z.stack s1 H f c q tl j Q hr hj I1.kIn I1.env0 (C.call I1 hx hs) mo mx hc ht) fun r s2 hq => ?_)
  cases r with
  | error e => exact passE0 pins σ _ _ e s2 I1 hq
  | ok fl =>
    cases fl with
    | ret u => exact I1.after hq
    | next => exact False.elim hq
    | brk => exact False.elim hq
    | cont => exact False.elim hq
def tWvR (Q : VK) : VK := fun v H' => ∀ p, H' p = none → ∀ p2, upd H' p (.tup [v, .str "", .non]) p2 = none → Q (.ref p2) (upd (upd H' p (.tup [v, .str "", .non])) p2 (.tup [.str "", .non]))
def tWxR (K : PySem.W.Frag) (cs : List Value) (exs : List Str) (Q : VK) : XK := fun cls d H' => PySem.W.exmAny K cls cs = some true ∧ ∃ nm dd R F M ns xs ys w g, nm ∈ exs ∧ cls = .ref (He.ga K nm) ∧ d = some dd ∧ At K R F M H' ∧ F dd = some (.xd (ns.zip ys)) ∧ ns.length = xs.length ∧ Reps K F xs ys ∧ findN ns xs "word" = some (.str w) ∧ fieldOf ns xs = some g ∧
  KD K R F (fun g' M' => g' = g ∧ M' = M) fun v H2 => ∀ p, H2 p = none → ∀ p2, upd H2 p (.tup [.non, .str w, v]) p2 = none → Q (.ref p2) (upd (upd H2 p (.tup [.non, .str w, v])) p2 (.tup [.str w, v]))
def tRefused (K : PySem.W.Frag) (cs : List Value) (exs : List Str) (f c : Addr) (q : Str) (tl : XK → Hp → VK → Prop) : TS := tRet (tSl (rSlA K) (tRefT K cs exs f c q tl) (tPart (tC (.int 1))) tNoPart)
theorem cut3 (x y z : V) : HT.sIx [x, y, z].length 0 (some 1) = 1 ∧ cutV [x, y, z] (some 1) none = [y, z] := ⟨rfl, rfl⟩
theorem refused_run {K : PySem.W.Frag} {cs : List Value} {exs : List Str} {f c : Addr} {q : Str} {tl : XK → Hp → VK → Prop} {H : Hp} {Q : VK} (mo : Mono tl) (mx : MonoX tl) (hc : H c = some (LamX.CodeO c q)) (h : tl (tWxR K cs exs Q) H (tWvR Q)) :
    tRefused K cs exs f c q tl { nx := fun _ H' => Q .non H', rt := Q } (L2.start refusedN [.ref f]) H := by
  have sl : ∀ {x y z : V} {H' : Hp} {p : Addr}, (∀ p2, upd H' p (.tup [x, y, z]) p2 = none → Q (.ref p2) (upd (upd H' p (.tup [x, y, z])) p2 (.tup [y, z]))) → rSlA K (.ref p) (some 1) none (upd H' p (.tup [x, y, z])) Q := fun {x y z H' p} hq =>
    ⟨p, _, rfl, .inl (.inl upd_same), fun ⟨z1, _⟩ => by rw [(cut3 x y z).1] at z1; exact absurd z1 (by decide), fun _ p2 hp => by rw [(cut3 x y z).2]; exact hq p2 hp⟩
  refine ⟨rfl, hc, mo.up _ _ _ _ (fun v H' hv p hp => ⟨1, rfl, sl (hv p hp)⟩) (mx _ _ _ _ (fun cls d H' ⟨hm, nm, dd, R, F, M, ns, xs, ys, w, g, hn, e1, e2, a0, fd, hl, rs, hw, hg, kd⟩ => ⟨hm, nm, dd, R, F, M, ns, xs, ys, w, g, hn, e1, e2, a0, fd, hl, rs, hw, hg, fun F1 H1 M1 d1 v1 s1 a1 r1 q1 p hp => ⟨1, rfl, sl (kd F1 H1 M1 d1 v1 s1 a1 r1 q1 p hp)⟩⟩) h)⟩
abbrev RefusedOk (P : Program) (w : World) (K : PySem.W.Frag) (mg : Str → Option Value) (base : Heap) (k : Nat) (cs : List Value) (exs : List Str) : Prop := Taker P w K mg base k 3 "_law_refused" (tWxR K cs exs) tWvR
theorem refused_ok {P : Program} {w : World} {K : PySem.W.Frag} {mg : Str → Option Value} {base : Heap} {k : Nat} {cs : List Value} {exs : List Str} {st : Stmt} (d : DefAt K mg "_law_refused" st) (S : FnScope refusedN [("_law_ask" : Str)] (defScope st))
    (bind : ∀ (kV doc pm : Value) (an : Option Addr) (cdv ct : Value) (us : List Value), us.length = ([("_law_ask" : Str)]).length → bindArgs (PySem.W.fnOf "_law_refused" "_law_refused" (defArgs st) (defBody st) (defScope st) .none kV doc pm an cdv ct) ⟨us, []⟩ = pure (([("_law_ask" : Str)]).zip us))
    (hb : ∀ (g : Addr) (cdv : Value) (A : Around) (outer : List Env) (s : Shared) (H : Hp) (f c : Addr) (q : Str) (tl : XK → Hp → VK → Prop) (j : Nat), j + 2 ≤ k → Mono tl → MonoX tl → Cal P w K mg base j q f c tl (frs outer) s H → Room k (A.deeper (envOfC "_law_refused" (defScope st) s.heap.objs.size g cdv)) →
      PSs (bodyX P w K mg base refusedN "_law_refused" st g cdv A outer s H E0) (defBody st) (tRefused K cs exs f c q tl)) : RefusedOk P w K mg base (k + 1) cs exs := by
  obtain ⟨g, fd, F, hm⟩ := d.ex
  refine ⟨g, hm, F.kp, fun A outer s H f c q tl j Q hr hj kin e0 C mo mx hc h => ?_⟩
  have bd := F.bindsN bind s [Value.ref f] kin rfl
  rw [List.append_nil] at bd
  obtain ⟨oc, od, dV, kV, doc, pm, an, cdv, ct, osl, rfl, lk, hcd, _, _⟩ := F.ex
  exact LamX.run_ofS (CX := L2N.CX P w) lk hcd S hr e0 bd (vs := [.ref f]) (.cons (rfl : RelV (.ref f) (.ref f)) .nil) rfl fun hr2 => ⟨_, hb g cdv A outer s H f c q tl j (by omega) mo mx C hr2, refused_run mo mx hc h⟩
section
variable {X : Cx} {pins : List (Addr × Obj)} {σ : L2.St} {H : Hp} {s : Shared}
/-- a lambda is made, over data: its code is new, or found in the table -/
theorem lam_make3 {P c : Addr} {params : Arguments} {body : Expr} {scope : Scope} {pos : Pos} {E : Value → Shared → Prop} {Q : Value → Shared → Prop} {R F : Hp} {M : Mp} (I : Inv X pins σ H s) (a : At X.K R F M H) (hM : M P = some (.tbl (X.env.qual ++ "<lambda>"))) (TB : LamX.TabB X.base X.mg c P) (hcode : X.env.code = .ref c)
    (hdef : defaultsOf params X.env = ([], [])) (hfree : ∀ y ∈ scope.names, y.2 = .free → ∃ c, X.env.cells.lookup y.1 = some c)
    (h : ∀ (f c' : Addr) (pm ctv : Value) (H1 F1 : Hp) (s' : Shared), Inv X pins σ H1 s' → Same F F1 → At X.K R F1 M H1 → F1 c' = some (LamX.CodeO c' (X.env.qual ++ "<lambda>")) →
      s'.heap.get? f = some (PySem.W.kla_obj "<lambda>" (X.env.qual ++ "<lambda>") params body scope (cloFrom X.env.cells scope.names []) pm c' ctv) → H1 f = none → f ∉ frs X.stack → Q (.ref f) s') : wpAny (model X.prog X.w) X.A (eval (.Lambda params body scope pos) X.env) Q E s := by
  obtain ⟨nF, u, hP, ps, eu, ht, ha⟩ := a.mu _ _ hM
  subst eu
  refine PySem.W.kla_eval hdef ?_
  have bP := TB.bm.keeps I.bk
  have hP' : s.heap.get? P = some { cls := .none, data := .fields ps } := I.hok P _ hP
  have nofr : ∀ f, s.heap.objs.size ≤ f → f ∉ frs X.stack := fun f hf z => (List.mem_cons.mp (I.stkSub _ z)).elim (fun e => by
    have lt := I.lt
    rw [← e] at lt
    exact absurd (Nat.lt_of_lt_of_le lt hf) (Nat.lt_irrefl _)) (I.nofs hf)
  cases hc : codeAmong pos ps.toList with
  | some cv =>
    obtain ⟨c', e, hco⟩ := ha pos cv hc
    subst e
    refine PySem.W.kla_makeFunctionHit (mg := X.mg) (c := c) (P := P) (ps := ps) (closure_ok hfree) I.ok.glob (I.mod.glob.keeps I.bk) hcode (TB.code.keeps I.bk) hP' ht hc bP fun ctv h' tk hx hsz => ?_
    have I1 : Inv X pins σ H { s with heap := h'.push (PySem.W.kla_obj "<lambda>" (X.env.qual ++ "<lambda>") params body scope (cloFrom X.env.cells scope.names []) ((X.mg "__name__").getD .none) c' ctv), toks := tk } := I.kept (fun b o e => Heap.get?_push_of_some _ (hx b o e))
    exact h h'.objs.size c' ((X.mg "__name__").getD .none) ctv H F _ I1 (Same.refl F) a hco (Heap.get?_push_size _ rfl) (I.hok.fresh hsz) (nofr _ hsz)
  | none =>
    refine PySem.W.kla_makeFunction (mg := X.mg) (c := c) (P := P) (ps := ps) (closure_ok hfree) I.ok.glob (I.mod.glob.keeps I.bk) hcode (TB.code.keeps I.bk) hP' ht hc TB.gP bP fun c' ctv h' tk hx hge hlt hrec htb => ?_
    obtain ⟨c2, oc, vs, t, e2, hoc, hd, hv⟩ := hrec
    cases e2
    have nC : H c' = none := I.hok.fresh hge
    have hsz := Nat.le_trans hge (Nat.le_of_lt hlt)
    have ne : P ≠ c' := ne_of_none hP nC
    have I1 := LamX.inv_table (t' := tk) (more := #[rawInt pos.line, rawInt pos.col, .ref c']) (h' := h'.push (PySem.W.kla_obj "<lambda>" (X.env.qual ++ "<lambda>") params body scope (cloFrom X.env.cells scope.names []) ((X.mg "__name__").getD .none) c' ctv)) I hP
      (fun b o hb e => Heap.get?_push_of_some _ (hx b o hb e)) (Heap.get?_push_of_some _ htb) hge ⟨oc, vs, t, Heap.get?_push_of_some _ hoc, hd, hv⟩
    obtain ⟨a1, s1⟩ := a.laid nC (LamX.CodeO c' (X.env.qual ++ "<lambda>"))
    have eL : (ps ++ #[rawInt pos.line, rawInt pos.col, .ref c']).toList = ps.toList ++ [rawInt pos.line, rawInt pos.col, .ref c'] := by simp
    have r2 : RepO X.K (upd F c' (LamX.CodeO c' (X.env.qual ++ "<lambda>"))) P (.tbl (X.env.qual ++ "<lambda>")) (.tbl (ps ++ #[rawInt pos.line, rawInt pos.col, .ref c'])) := ⟨_, rfl, by rw [eL]; exact PySem.TriplesOk_snoc _ _ _ _ ht, fun p2 cv hcv => by
      rw [eL] at hcv
      rcases LamX.among_app _ ht hcv with z | z
      · obtain ⟨c0, e1, e2⟩ := ha p2 cv z
        exact ⟨c0, e1, s1 _ _ e2⟩
      · exact ⟨c', z, upd_same⟩⟩
    have a2 := a1.wrote hM r2
    rw [mupd_id hM] at a2
    have ec : upd (upd H P (.tbl (ps ++ #[rawInt pos.line, rawInt pos.col, .ref c']))) c' (LamX.CodeO c' (X.env.qual ++ "<lambda>")) = upd (upd H c' (LamX.CodeO c' (X.env.qual ++ "<lambda>"))) P (.tbl (ps ++ #[rawInt pos.line, rawInt pos.col, .ref c'])) := by
      funext b
      by_cases h1 : b = c'
      · rw [h1, upd_same, upd_ne (Ne.symm ne), upd_same]
      · rw [upd_ne h1]
        by_cases h2 : b = P
        · rw [h2, upd_same, upd_same]
        · rw [upd_ne h2, upd_ne h2, upd_ne h1]
    rw [ec] at I1
    refine h h'.objs.size c' ((X.mg "__name__").getD .none) ctv _ _ _ I1 s1 a2 upd_same (Heap.get?_push_size _ rfl) ?_ (nofr _ hsz)
    have n1 : h'.objs.size ≠ c' := Nat.ne_of_gt hlt
    have n2 : h'.objs.size ≠ P := Nat.ne_of_gt (Nat.lt_of_lt_of_le (Heap.lt_size hP') hsz)
    rw [upd_ne n2, upd_ne n1]
    exact I.hok.fresh hsz
end
end L3
set_option Elab.async false
set_option linter.all false
set_option maxRecDepth 100000
set_option maxHeartbeats 2000000
namespace L3
open PySem PySem.Spec PyProof.Rows L2
section
variable {X : Cx}
/-- x(lambda: body): P the table of the maker's code, tb what the body does -/
theorem pe_lam {k n j : Nat} {x : Str} {WX : VK → XK} {WV : VK → VK} {P c : Addr} {params : Arguments} {body : Expr} {scope : Scope} {tb : DEX} {p lpos pos : Pos} (T : Taker X.prog X.w X.K X.mg X.base k n x WX WV) (TB : LamX.TabB X.base X.mg c P) (hcode : X.env.code = .ref c) (hr : Room k X.A) (hj : j + n ≤ k) (L : LamX.LamS X.env.scope scope)
    (hbody : ∀ (A : Around) (outer : List Env) (s1 : Shared) (H1 : Hp) (E : XK) (f c' : Addr), Room j (A.deeper (LamX.lamEnv X scope s1.heap.objs.size f c')) → PDEX (lamN X A outer s1 H1 E scope f c') E body tb)
    (hdef : defaultsOf params X.env = ([], []) := by rfl) (hbind : ∀ (q : Str) (cl : List (Str × Addr)) (pm cv ctv : Value), bindArgs (PySem.W.kla_fn "<lambda>" q params body scope cl pm cv ctv) ⟨[], []⟩ = pure [] := by intros; rfl) (hg : Gl X x := by rfl) (hdb : (x == ("__debug__" : Str)) = false := by decide)
    (he : starEach [.Lambda params body scope lpos] X.env = (false, eval (.Lambda params body scope lpos) X.env) :: starEach [] X.env := by rfl) :
    PE X (.Call (.Name x p) [.Lambda params body scope lpos] [] pos) (fun σ H Q => ∃ R F env M, At X.K R F M H ∧ EnvR X.K F σ env ∧ M P = some (.tbl (X.env.qual ++ "<lambda>")) ∧ ∃ Qd Ed, tb env M Qd Ed ∧ KD X.K R F Qd (WV Q) ∧ KX X.K R F Ed (WX Q)) := by
  refine ⟨fun pins s σ H Q I ⟨R, F, env, M, a, en, hM, Qd, Ed, t, kd, kx⟩ => ?_⟩
  obtain ⟨g, hm, hk, run⟩ := T.ex
  refine wpAny_Call_Name_kw (ld_glob I hg hm ?_ hdb)
  refine PySem.W.callWith_K (h₀ := X.base) I.ok.mod.kin hk ?_ he rfl
  (show wpAny _ _ (spliced ((false, eval (.Lambda params body scope lpos) X.env) :: backTo pos (starEach [] X.env))) _ _ s)
  refine Calls.spliced_cons (lam_make3 I a hM TB hcode hdef (L.has I.ok) fun f c' pm ctv H1 F1 s1 I1 s2 a1 hco hf hfn hfr => Calls.spliced_nil ⟨I1.kIn, ?_⟩)
  have C := lam_cal (k := j) (tb := fun E => upX X.K E tb) I1 L hf hfn hfr (hbind _ _ _ _ _) fun A outer s3 H3 E hr3 => hbody A outer s3 H3 E f c' hr3
  refine wpAny_call (codeAny_mono (run X.A X.stack s1 H1 f c' _ _ j Q hr hj I1.kIn I1.env0 C mono_up monoX_up (a1.fz _ _ hco) ⟨R, F1, env, M, Qd, Ed, a1, en.mono s2, t, kd.mono s2, kx.mono s2⟩) fun r s4 hq => ?_)
  cases r with
  | error e => exact passE0 pins σ _ _ e s4 I1 hq
  | ok fl =>
    cases fl with
    | ret u => exact I1.after hq
    | next => exact False.elim hq
    | brk => exact False.elim hq
    | cont => exact False.elim hq
/-- what is told of an exception -/
def xTold (exs : List Str) (Q : Str → D → Mp → Prop) : DX := fun nm ns xs M1 => nm ∈ exs ∧ ∃ w g, findN ns xs "word" = some (.str w) ∧ fieldOf ns xs = some g ∧ Q w g M1
def dTry (P : Addr) (q : Str) (exs : List Str) (tb : DEX) : DE := fun env M Q => M P = some (.tbl q) ∧ tb env M (fun v M1 => Q (.tup [v, .str "", .non]) M1) (xTold exs fun w g M1 => Q (.tup [.non, .str w, g]) M1)
def dRef (P : Addr) (q : Str) (exs : List Str) (tb : DEX) : DE := fun env M Q => M P = some (.tbl q) ∧ tb env M (fun v M1 => Q (.tup [.str "", .non]) M1) (xTold exs fun w g M1 => Q (.tup [.str w, g]) M1)
theorem sok0 : SOk ("" : Str) := by decide +kernel
theorem told_up {K : PySem.W.Frag} {R : Hp} {exs : List Str} {cs : List Value} {Z : Str → D → Mp → Prop} (hcs : ∀ nm ∈ exs, PySem.W.exmAny K (.ref (He.ga K nm)) cs = some true) {F' H' : Hp} {M' : Mp} {nm : Str} {dd : Addr} {ns : List Str} {ds : List D} {xs : List V} (a1 : At K R F' M' H') (fd : F' dd = some (.xd (ns.zip xs))) (hl : ns.length = ds.length) (rs : Reps K F' ds xs) (q : xTold exs Z nm ns ds M')
    (WW : Str → V → Hp → Prop) (hw : ∀ w g, Z w g M' → SOk w → KD K R F' (fun g' M2 => g' = g ∧ M2 = M') (WW w)) : PySem.W.exmAny K (.ref (He.ga K nm)) cs = some true ∧ ∃ nm' dd' R F M ns' xs' ys w g, nm' ∈ exs ∧ (Value.ref (He.ga K nm)) = .ref (He.ga K nm') ∧ some dd = some dd' ∧ At K R F M H' ∧ F dd' = some (.xd (ns'.zip ys)) ∧ ns'.length = xs'.length ∧ Reps K F xs' ys ∧ findN ns' xs' "word" = some (.str w) ∧ fieldOf ns' xs' = some g ∧
      KD K R F (fun g' M2 => g' = g ∧ M2 = M) (WW w) := by
  obtain ⟨hn, w, g, h1, h2, qz⟩ := q
  obtain ⟨_, _, r0⟩ := findN_rep rs h1
  exact ⟨hcs nm hn, nm, dd, R, F', M', ns, ds, xs, w, g, hn, rfl, rfl, a1, fd, hl, rs, h1, h2, hw w g qz r0.2⟩
theorem pd_try {k j : Nat} {P c : Addr} {exs : List Str} {cs : List Value} {params : Arguments} {body : Expr} {scope : Scope} {tb : DEX} {p lpos pos : Pos} (T : TriedOk X.prog X.w X.K X.mg X.base k cs exs) (hcs : ∀ nm ∈ exs, PySem.W.exmAny X.K (.ref (He.ga X.K nm)) cs = some true) (TB : LamX.TabB X.base X.mg c P) (hcode : X.env.code = .ref c) (hr : Room k X.A) (hj : j + 2 ≤ k) (L : LamX.LamS X.env.scope scope)
    (hbody : ∀ (A : Around) (outer : List Env) (s1 : Shared) (H1 : Hp) (E : XK) (f c' : Addr), Room j (A.deeper (LamX.lamEnv X scope s1.heap.objs.size f c')) → PDEX (lamN X A outer s1 H1 E scope f c') E body tb)
    (hdef : defaultsOf params X.env = ([], []) := by rfl) (hbind : ∀ (q : Str) (cl : List (Str × Addr)) (pm cv ctv : Value), bindArgs (PySem.W.kla_fn "<lambda>" q params body scope cl pm cv ctv) ⟨[], []⟩ = pure [] := by intros; rfl) (hg : Gl X "_law_tried" := by rfl)
    (he : starEach [.Lambda params body scope lpos] X.env = (false, eval (.Lambda params body scope lpos) X.env) :: starEach [] X.env := by rfl) :
    PDE X (.Call (.Name "_law_tried" p) [.Lambda params body scope lpos] [] pos) (dTry P (X.env.qual ++ "<lambda>") exs tb) :=
  pe_imp (pe_lam T TB hcode hr hj L hbody hdef hbind hg (by decide) he) fun σ H Q ⟨R, F, env, M, Qd, a, en, ⟨hM, t⟩, k0⟩ => ⟨R, F, env, M, a, en, hM, _, _, t, fun F1 H1 M1 d v s1 a1 r1 q1 p hp => tup_new a1 (ds := [d, .str "", .non]) (vs := [v, .str "", .non]) ⟨v, _, rfl, r1, .str "", _, rfl, ⟨rfl, sok0⟩, .non, _, rfl, rfl, rfl⟩ (k0.mono s1) q1 hp,
    fun F1 H1 M1 nm dd ns ds xs s1 a1 fd hl rs q1 => told_up hcs a1 fd hl rs q1 (fun w v H2 => ∀ p, H2 p = none → Q (.ref p) (upd H2 p (.tup [.non, .str w, v]))) fun w g qz hw F2 H2 M2 g2 v2 s2 a2 r2 q2 p hp => by
      obtain ⟨rfl, rfl⟩ := q2
      exact tup_new a2 (ds := [.non, .str w, g2]) (vs := [.non, .str w, v2]) ⟨.non, _, rfl, rfl, .str w, _, rfl, ⟨rfl, hw⟩, v2, _, rfl, r2, rfl⟩ (k0.mono (s1.trans s2)) qz hp⟩
theorem pd_ref {k j : Nat} {P c : Addr} {exs : List Str} {cs : List Value} {params : Arguments} {body : Expr} {scope : Scope} {tb : DEX} {p lpos pos : Pos} (T : RefusedOk X.prog X.w X.K X.mg X.base k cs exs) (hcs : ∀ nm ∈ exs, PySem.W.exmAny X.K (.ref (He.ga X.K nm)) cs = some true) (TB : LamX.TabB X.base X.mg c P) (hcode : X.env.code = .ref c) (hr : Room k X.A) (hj : j + 3 ≤ k) (L : LamX.LamS X.env.scope scope)
    (hbody : ∀ (A : Around) (outer : List Env) (s1 : Shared) (H1 : Hp) (E : XK) (f c' : Addr), Room j (A.deeper (LamX.lamEnv X scope s1.heap.objs.size f c')) → PDEX (lamN X A outer s1 H1 E scope f c') E body tb)
    (hdef : defaultsOf params X.env = ([], []) := by rfl) (hbind : ∀ (q : Str) (cl : List (Str × Addr)) (pm cv ctv : Value), bindArgs (PySem.W.kla_fn "<lambda>" q params body scope cl pm cv ctv) ⟨[], []⟩ = pure [] := by intros; rfl) (hg : Gl X "_law_refused" := by rfl)
    (he : starEach [.Lambda params body scope lpos] X.env = (false, eval (.Lambda params body scope lpos) X.env) :: starEach [] X.env := by rfl) :
    PDE X (.Call (.Name "_law_refused" p) [.Lambda params body scope lpos] [] pos) (dRef P (X.env.qual ++ "<lambda>") exs tb) :=
  pe_imp (pe_lam T TB hcode hr hj L hbody hdef hbind hg (by decide) he) fun σ H Q ⟨R, F, env, M, Qd, a, en, ⟨hM, t⟩, k0⟩ => ⟨R, F, env, M, a, en, hM, _, _, t, fun F1 H1 M1 d v s1 a1 r1 q1 p hp p2 hp2 => by
      obtain ⟨a2, s2⟩ := a1.laid hp (.tup [v, .str "", .non])
      exact tup_new a2 (ds := [.str "", .non]) (vs := [.str "", .non]) ⟨.str "", _, rfl, ⟨rfl, sok0⟩, .non, _, rfl, rfl, rfl⟩ (k0.mono (s1.trans s2)) q1 hp2,
    fun F1 H1 M1 nm dd ns ds xs s1 a1 fd hl rs q1 => told_up hcs a1 fd hl rs q1 (fun w v H2 => ∀ p, H2 p = none → ∀ p2, upd H2 p (.tup [.non, .str w, v]) p2 = none → Q (.ref p2) (upd (upd H2 p (.tup [.non, .str w, v])) p2 (.tup [.str w, v]))) fun w g qz hw F2 H2 M2 g2 v2 s2 a2 r2 q2 p hp p2 hp2 => by
      obtain ⟨rfl, rfl⟩ := q2
      obtain ⟨a3, s3⟩ := a2.laid hp (.tup [.non, .str w, v2])
      exact tup_new a3 (ds := [.str w, g2]) (vs := [.str w, v2]) ⟨.str w, _, rfl, ⟨rfl, hw⟩, v2, _, rfl, r2.mono s3, rfl⟩ (k0.mono (s1.trans (s2.trans s3))) qz hp2⟩
end
end L3
set_option Elab.async false
set_option linter.all false
set_option maxRecDepth 100000
set_option maxHeartbeats 1000000
namespace L3
open PySem PySem.Spec PyProof.Rows L2
def asT (g : Addr → Option Obj) (n : Nat) : List Addr := He.asD g n ++ [cStatics]
def obsXT (n : Nat) (fb : List (PySem.W.Frag → Bool)) (fa : List He.Fa) (fn : List He.DefD) (tf : List He.Defn) (g : Addr → Option Obj) : AlX × Bool := (obsX fb fa fn (He.frT g (asT g n)), He.tabsB g tf (He.frT g (asT g n)))
structure SaysXT (fb : List (PySem.W.Frag → Bool)) (fa : List He.Fa) (fn : List He.DefD) (tf : List He.Defn) (h : Heap) (K : PySem.W.Frag) : Prop where
  c : SaysX fb fa fn K
  hd : ∀ p ∈ tf, PySem.W.codeHdIn K (He.cT K p).1 (He.cT K p).2 = true
  out : ∀ p ∈ tf, K.lookup (He.cT K p).2 = none
  empty : ∀ p ∈ tf, h.get? (He.cT K p).2 = some { cls := .none, data := .fields #[] }
theorem saysXT_of {n : Nat} {fb : List (PySem.W.Frag → Bool)} {fa : List He.Fa} {fn : List He.DefD} {tf : List He.Defn} {h : Heap} (e : obsXT n fb fa fn tf h.get? = (valX fn, true)) : SaysXT fb fa fn tf h (He.frT h.get? (asT h.get? n)) := by
  have e1 : obsX fb fa fn (He.frT h.get? (asT h.get? n)) = valX fn := congrArg (fun z : AlX × Bool => z.1) e
  have e2 : He.tabsB h.get? tf (He.frT h.get? (asT h.get? n)) = true := congrArg (fun z : AlX × Bool => z.2) e
  generalize hK : He.frT h.get? (asT h.get? n) = K at e1 e2
  have key : ∀ p ∈ tf, PySem.W.codeHdIn K (He.cT K p).1 (He.cT K p).2 = true ∧ ∃ o, h.get? (He.cT K p).2 = some o ∧ He.emptyTab o = true := fun p hp => by
    obtain ⟨z1, z2⟩ := He.ba (List.all_eq_true.mp e2 p hp)
    refine ⟨z1, ?_⟩
    cases q : h.get? (He.cT K p).2 with
    | none => rw [q] at z2; cases z2
    | some o => rw [q] at z2; exact ⟨o, rfl, z2⟩
  refine ⟨e1, fun p hp => (key p hp).1, fun p hp => ?_, fun p hp => ?_⟩
  · obtain ⟨_, o, q, z⟩ := key p hp
    rw [← hK] at q ⊢
    exact He.frT_none q z
  · obtain ⟨_, o, q, z⟩ := key p hp
    rw [q, He.emptyTab_eq z]
/-- a law's start, its own table empty -/
theorem law_startT {K : PySem.W.Frag} {H : Hp} {a P : Addr} {q : Str} {ns : List Int} {sp : SpD} {E : XK} (hP : H P = some (.tbl #[])) (hS : SqL K H a (ns.map V.int)) (h : sp [.lsk (ns.map D.int)] (mupd (fun _ => none) P (.tbl q)) (fun d _ => d = .bl true) X0) : upSp K 1 sp [.ref a] H (fun v _ => v = .bl true) E := by
  have hne : a ≠ P ∨ ∃ o, K.lookup a = some o := by
    rcases hS with (h1 | ⟨o, h1⟩) | ⟨o, _, _, h1, _⟩
    · exact .inl fun z => by rw [z, hP] at h1; cases h1
    · exact .inl fun z => by rw [z, hP] at h1; cases h1
    · exact .inr ⟨o, h1⟩
  let F : Hp := fun b => if b = P then none else H b
  have sF : Same F H := fun b o e => by
    show H b = some o
    have e2 : (if b = P then none else H b) = some o := e
    split at e2
    · cases e2
    · exact e2
  have hS2 : SqL K F a (ns.map V.int) := by
    rcases hS with (h1 | ⟨o, h1⟩) | h1
    · exact .inl (.inl (by show (if a = P then none else H a) = _; rw [if_neg (fun z => by rw [z, hP] at h1; cases h1)]; exact h1))
    · exact .inl (.inr ⟨o, by show (if a = P then none else H a) = _; rw [if_neg (fun z => by rw [z, hP] at h1; cases h1)]; exact h1⟩)
    · exact .inr h1
  refine ⟨fun _ => none, F, mupd (fun _ => none) P (.tbl q), [.lsk (ns.map D.int)], _, _, ⟨sF, fun b o e => ?_, fun _ _ e => (by cases e)⟩, ⟨.ref a, [], rfl, ⟨a, _, rfl, hS2, Reps.ofInts ns⟩, rfl⟩, rfl, h, fun F' H' M' d v s at_ r q => ?_, kx0⟩
  · by_cases hb : b = P
    · subst hb
      rw [mupd_same] at e
      cases e
      exact ⟨if_pos rfl, _, hP, #[], rfl, True.intro, fun pos cv z => by simp [codeAmong] at z⟩
    · rw [mupd_ne hb] at e; cases e
  · subst q
    exact r
end L3
set_option Elab.async false
set_option linter.all false
set_option maxRecDepth 100000
set_option maxHeartbeats 1000000
namespace L3
open PySem PySem.Spec PyProof.Rows L2 ClX
def oexB (b : Bs) (K : PySem.W.Frag) (C : Addr) : Bool := (match K.lookup C with
  | some ⟨.type "type", _, .cls cd, sl⟩ => (match cd.mro, sl.toList with
    | .ref C2 :: bm, [_, _, _, _, some (.builtin n), _] => decide (C2 = C) && (decide (n = b.new) && (!cd.hasDel && (cd.hasDict && b.refs bm)))
    | _, _ => false)
  | _ => false) && (He.eqO (PySem.W.findIn K (.ref C) "__setattr__") (some (some (.builtin "object.__setattr__"))) && (decide (PySem.W.subIn K (.ref C) (.type "BaseException") = some true) && (decide (PySem.W.typeIn K (.ref C) = some (.type "type")) && PySem.W.keepIn K (.ref C))))
theorem oexB_ok {b : Bs} {K : PySem.W.Frag} {C : Addr} (h : oexB b K C = true) : OexB K C b := by
  obtain ⟨h1, h⟩ := He.ba h
  obtain ⟨h2, h⟩ := He.ba h
  obtain ⟨h3, h⟩ := He.ba h
  obtain ⟨h4, h5⟩ := He.ba h
  refine ⟨?_, He.eqO_ok h2, of_decide_eq_true h3, of_decide_eq_true h4, h5⟩
  split at h1
  · rename_i dd cd sl ho
    split at h1
    · rename_i C2 bm k0 k1 k2 k3 n k5 hm hs
      obtain ⟨z1, h1⟩ := He.ba h1
      obtain ⟨z2, h1⟩ := He.ba h1
      obtain ⟨z3, h1⟩ := He.ba h1
      obtain ⟨z4, z5⟩ := He.ba h1
      have z1 := of_decide_eq_true z1
      have z2 := of_decide_eq_true z2
      obtain ⟨nm, bs, mro, ns, qn, hdct, sn, sub, ab, col, del⟩ := cd
      dsimp only at hm z3 z4
      subst hm z1 z2 z4
      have e : sl = #[k0, k1, k2, k3, some (.builtin b.new), k5] := by
        obtain ⟨l⟩ := sl
        simp only at hs
        rw [hs]
      subst e
      have z3 : del = false := by simpa using z3
      subst z3
      exact ⟨nm, qn, ns, bs, bm, sn, sub, ab, col, dd, k0, k1, k2, k3, k5, ho, b.refs_ok _ z5⟩
    · cases h1
  · cases h1
def badB (b : Bs) (nm : Str) (fs : List Str) (cs : List Str) (K : PySem.W.Frag) : Bool := oexB b K (He.ga K nm) && (He.eqO (PySem.W.findIn K (.ref (He.ga K nm)) "word") (some none) && (fs.all (fun f => He.eqO (PySem.W.findIn K (.ref (He.ga K nm)) f) (some none)) && (He.eqO (PySem.W.findIn K (.ref (He.ga K nm)) "__init__") (some (some (.ref (He.ma K (He.ga K nm) "__init__")))) &&
  (decide (PySem.W.typeIn K (.ref (He.ma K (He.ga K nm) "__init__")) = some (.type "function")) && (xfB K (He.ga K nm) && (decide (PySem.W.exmAny K (.ref (He.ga K nm)) (cs.map fun c => .ref (He.ga K c)) = some true) && He.eqO (PySem.W.nsIn K mainGlobals nm) (some (some (.ref (He.ga K nm))))))))))
structure BadF (K : PySem.W.Frag) (mg : Str → Option Value) (b : Bs) (nm : Str) (fs : List Str) (cs : List Str) : Prop where
  c : BadC K nm fs b
  ini : PySem.W.findIn K (.ref (He.ga K nm)) "__init__" = some (some (.ref (He.ma K (He.ga K nm) "__init__")))
  ty : PySem.W.typeIn K (.ref (He.ma K (He.ga K nm) "__init__")) = some (.type "function")
  xf : XfC K (He.ga K nm)
  ex : PySem.W.exmAny K (.ref (He.ga K nm)) (cs.map fun c => .ref (He.ga K c)) = some true
  gl : mg nm = some (.ref (He.ga K nm))
theorem badB_ok {K : PySem.W.Frag} {h : Heap} {mg : Str → Option Value} (X : K.In h) (G : h.Ns mainGlobals mg) {bb : Bs} {nm : Str} {fs cs : List Str} (b : badB bb nm fs cs K = true) : BadF K mg bb nm fs cs := by
  obtain ⟨h1, b⟩ := He.ba b
  obtain ⟨h2, b⟩ := He.ba b
  obtain ⟨h3, b⟩ := He.ba b
  obtain ⟨h4, b⟩ := He.ba b
  obtain ⟨h5, b⟩ := He.ba b
  obtain ⟨h6, b⟩ := He.ba b
  obtain ⟨h7, h8⟩ := He.ba b
  exact ⟨⟨oexB_ok h1, He.eqO_ok h2, fun f hf => He.eqO_ok (List.all_eq_true.mp h3 f hf)⟩, He.eqO_ok h4, of_decide_eq_true h5, xfB_ok h6, of_decide_eq_true h7, He.glo_ok X G (x := nm) h8⟩
def inkB (bb : Bs) (x : Str) (K : PySem.W.Frag) : Bool := PySem.W.readsIn K (He.ga K x) (.type "type") && (decide (PySem.W.specialIn K (.ref (He.ga K x)) "__getattribute__" = some (some (.builtin "type.__getattribute__"))) && ((match PySem.W.findCls K (.ref (He.ga K x)) (.type "type") "__init__" with
  | some (.val (.ref a)) => decide (a = He.ma K (He.ga K x) "__init__")
  | _ => false) && ((match PySem.W.findCls K (.type bb.nm) (.type "type") "__init__" with
  | some (.val (.builtin n)) => decide (n = bb.ini)
  | _ => false) && (PySem.W.keepIn K (.ref (He.ma K (He.ga K x) "__init__")) && He.eqO (PySem.W.nsIn K mainGlobals x) (some (some (.ref (He.ga K x))))))))
structure InkF (K : PySem.W.Frag) (mg : Str → Option Value) (bb : Bs) (x : Str) : Prop where
  r : CRead K (He.ga K x) (.type "type")
  v : CVal K (He.ga K x) (.type "type") "__init__" (.ref (He.ma K (He.ga K x) "__init__")) (.ref (He.ma K (He.ga K x) "__init__"))
  ve : bb.Finds K
  kp : PySem.W.keepIn K (.ref (He.ma K (He.ga K x) "__init__")) = true
  gl : mg x = some (.ref (He.ga K x))
theorem inkB_ok {K : PySem.W.Frag} {h : Heap} {mg : Str → Option Value} (X : K.In h) (G : h.Ns mainGlobals mg) {bb : Bs} {x : Str} (b : inkB bb x K = true) : InkF K mg bb x := by
  obtain ⟨h1, b⟩ := He.ba b
  obtain ⟨h2, b⟩ := He.ba b
  obtain ⟨h3, b⟩ := He.ba b
  obtain ⟨h4, b⟩ := He.ba b
  obtain ⟨h5, h6⟩ := He.ba b
  refine ⟨⟨h1, of_decide_eq_true h2⟩, ⟨?_, rfl⟩, ?_, h5, He.glo_ok X G (x := x) h6⟩
  · split at h3
    · rename_i a e
      rw [e, of_decide_eq_true h3]
    · cases h3
  · split at h4
    · rename_i n e
      unfold Bs.Finds; rw [e, of_decide_eq_true h4]
    · cases h4
structure InkOk (P : Program) (w : World) (K : PySem.W.Frag) (mg : Str → Option Value) (base : Heap) (k : Nat) (bb : Bs) (x : Str) : Prop where
  f : InkF K mg bb x
  ex : ∃ fd ps, FnOk P w K mg base (L2N.CX P w) k (He.ma K (He.ga K x) "__init__") fd ps (spInk K bb) ∧ Binds K fd ps []
theorem InkOk.mono {P : Program} {w : World} {K : PySem.W.Frag} {mg : Str → Option Value} {base : Heap} {j k : Nat} {bb : Bs} {x : Str} (o : InkOk P w K mg base j bb x) (h : j ≤ k) : InkOk P w K mg base k bb x := ⟨o.f, let ⟨fd, ps, F, b⟩ := o.ex; ⟨fd, ps, F.mono h, b⟩⟩
end L3
set_option Elab.async false
set_option linter.all false
set_option maxRecDepth 100000
set_option maxHeartbeats 1000000
namespace L3
open PySem PySem.Spec PyProof.Rows L2 NS
/-- what a turn of a clause does behind its tests -/
abbrev Part := Value → Env → Sem Unit
/-- what stands behind the tests, from which Nx is reached -/
abbrev TB := L2.St → Hp → (Hp → Prop) → Prop
section
variable {Y : Cx} {D : Addr} {e : Expr} {k : Nat} {c : Comprehension} {part : Part} {g : TG} {tt : TT} {tb : TB} {vs vb : List Nat}
theorem FpOk.of {pins : List (Addr × Obj)} {H H' : Hp} {b : Addr} (f : FpOk Y pins H b) (h : H' b = none) : FpOk Y pins H' b := ⟨h, f.2⟩
end
end L3
set_option Elab.async false
set_option linter.all false
set_option maxRecDepth 100000
set_option maxHeartbeats 1000000
set_option Elab.async false
set_option linter.all false
set_option maxRecDepth 100000
set_option maxHeartbeats 1000000
namespace L3
open PySem PySem.Spec PyProof.Rows L2 NS
section
variable {X : Cx} {e : Expr} {te to ti : DE} {pos tpos p : Pos} {o i : Expr}
def DkRd (w : World) (H : Hp) (a : Addr) (Ls : List DRow) : Prop := H a = some (DkO w a Ls) ∨ ∃ o, H a = some (.frz o (DkO w a Ls))
theorem DkRd.at {pins : List (Addr × Obj)} {σ : L2.St} {H : Hp} {s : Shared} {a : Addr} {Ls : List DRow} (I : Inv X pins σ H s) (h : DkRd X.w H a Ls) : DkAt X.w a Ls s.heap := by
  rcases h with h | ⟨o, h⟩
  · exact (I.hok a _ h).1
  · exact (I.hok a _ h).2.1
end
end L3
set_option Elab.async false
set_option linter.all false
set_option maxRecDepth 100000
set_option maxHeartbeats 1000000
set_option Elab.async false
set_option linter.all false
set_option maxRecDepth 100000
set_option maxHeartbeats 2000000
set_option Elab.async false
set_option linter.all false
set_option maxRecDepth 100000
set_option maxHeartbeats 1000000
set_option Elab.async false
set_option linter.all false
set_option maxRecDepth 100000
set_option maxHeartbeats 1000000
namespace L3
open PySem PySem.Spec PyProof.Rows L2
def lookS : List (Str × D) → Str → Option D
  | (k, d) :: r, z => if k = z then some d else lookS r z
  | [], _ => none
/-- the module's dict at a: its keys, their values as data -/
structure TblAt (K : PySem.W.Frag) (w : World) (a : Addr) (rows : List (Str × D)) : Prop where
  kd : ∃ es n, KDict K w a es n
  has : ∀ z d, lookS rows z = some d → ∃ u v, PySem.W.nsIn K a z = some (some u) ∧ RelV v u ∧ ∀ F, Rep K F d v
  no : ∀ z, lookS rows z = none → PySem.W.nsIn K a z = some none
theorem TblAt.ns {K : PySem.W.Frag} {w : World} {a : Addr} {rows : List (Str × D)} (T : TblAt K w a rows) (z : Str) : ∃ r : Option Value, PySem.W.nsIn K a z = some r ∧ r.isSome = (lookS rows z).isSome := by
  cases e : lookS rows z with
  | none => exact ⟨none, T.no z e, rfl⟩
  | some d => obtain ⟨u, v, h, _, _⟩ := T.has z d e; exact ⟨some u, h, rfl⟩
section
variable {X : Cx} {e i f : Expr} {te ti tf : DE} {x : Str} {a : Addr} {rows : List (Str × D)} {pos apos p : Pos}
/-- z in d, z not in d -/
def dInT (rows : List (Str × D)) (g : Bool → Bool) (te : DE) : DE := fun env M Q => te env M fun d M1 => match d with
  | .str z => Q (.bl (g (lookS rows z).isSome)) M1
  | _ => False
theorem pdt_notinT (h : X.mg x = some (.ref a) ∧ TblAt X.K X.w a rows) (he : PDE X e te) (hg : Gl X x := by rfl) (hm : behindInMarks .NotIn (.Name x p) = false := by first | exact nomark _ | rfl) (hd : (x == ("__debug__" : Str)) = false := by decide) : PDT X (.Compare e [.NotIn] [.Name x p] pos) (dTest (dInT rows not te)) := by
  obtain ⟨es, n, D⟩ := h.2.kd
  refine pt_imp (pt_cmpR (op_notIn_kd D) he (pe_glob (v := .ref a) hg h.1 rfl hd) hm) (up_test fun σ H Q ⟨R, F, env, M, Qd, at_, en, hh, k⟩ => ⟨R, F, env, M, _, at_, en, hh, fun F1 H1 M1 d v s1 a1 r1 q1 => ?_⟩)
  cases d with
  | str z =>
    obtain ⟨r, e1, e2⟩ := h.2.ns z
    refine ⟨z, r, r1.1, rfl, e1, k F1 H1 M1 (.bl _) _ s1 a1 ?_ q1⟩
    show V.bl _ = V.bl (!_)
    rw [e2]
  | _ => exact q1.elim
/-- d[z] -/
def dIxT (rows : List (Str × D)) (ti : DE) : DE := fun env M Q => ti env M fun d M1 => match d with
  | .str z => (match lookS rows z with
    | some v => Q v M1
    | none => False)
  | _ => False
theorem pd_ixT (h : X.mg x = some (.ref a) ∧ TblAt X.K X.w a rows) (hi : PDE X i ti) (hs : PlainIx i := by intro _ _; rfl) (hg : Gl X x := by rfl) (hd : (x == ("__debug__" : Str)) = false := by decide) : PDE X (.Subscript (.Name x p) i pos) (dIxT rows ti) := by
  obtain ⟨es, n, D⟩ := h.2.kd
  refine pe_imp (pe_ix ix_kdict (pe_glob (v := .ref a) hg h.1 rfl hd) hi hs) fun σ H Q ⟨R, F, env, M, Qd, at_, en, hh, k⟩ => ⟨R, F, env, M, _, at_, en, hh, fun F1 H1 M1 d v s1 a1 r1 q1 => ?_⟩
  cases d with
  | str z =>
    cases e : lookS rows z with
    | none =>
      have q1 : (match lookS rows z with | some v => Qd v M1 | none => False) := q1
      rw [e] at q1; exact q1.elim
    | some d =>
      have q1 : (match lookS rows z with | some v => Qd v M1 | none => False) := q1
      rw [e] at q1
      obtain ⟨u, v, h1, h2, h3⟩ := h.2.has z d e
      exact ⟨a, z, v, rfl, r1.1, ⟨es, n, u, D.at_, D.lit, h1, h2⟩, k F1 H1 M1 d v s1 a1 (h3 F1) q1⟩
  | _ => exact q1.elim
end
/-- the values at the module's dict's keys, in order -/
def tblB (x : Str) (ks : List Str) (vs : List He.Dv) (K : PySem.W.Frag) : Bool := match K.lookup (He.ga K x) with
  | some ⟨_, _, .dict es _, _⟩ => decide (es.toList.map (fun e => He.keyOf e |>.map (·.1)) = ks.map some) && He.relAll (vs.map (He.Dv.v K)) (es.toList.map (·.val))
  | _ => false
def rowsOf : List Str → List D → List (Str × D)
  | k :: ks, d :: ds => (k, d) :: rowsOf ks ds
  | _, _ => []
theorem isStr_of {e : DictEntry} {k z : Str} (h : (He.keyOf e).map (·.1) = some k) : e.key.isStr z = decide (k = z) ∧ e.refKey = false := by
  unfold He.keyOf at h
  cases e with
  | mk hsh key val =>
    cases key with
    | str y t =>
      have h : some y = some k := h
      cases h
      refine ⟨?_, rfl⟩
      show (_ : Bool) = _
      first
        | rfl
        | (simp only [Value.isStr]; try rw [Bool.eq_iff_iff]; simp)
    | _ => cases h
theorem tbl_find {K : PySem.W.Frag} : ∀ {l : List DictEntry} {ks : List Str} {vs : List He.Dv} {ds : List D}, l.map (fun e => He.keyOf e |>.map (·.1)) = ks.map some → He.relAll (vs.map (He.Dv.v K)) (l.map (·.val)) = true → vs.length = ds.length → (∀ (j : Nat) (v : He.Dv) (d : D), vs[j]? = some v → ds[j]? = some d → ∀ F, Rep K F d (He.Dv.v K v)) →
    (∀ z d, lookS (rowsOf ks ds) z = some d → ∃ e v, l.find? (·.key.isStr z) = some e ∧ RelV v e.val ∧ ∀ F, Rep K F d v) ∧ (∀ z, lookS (rowsOf ks ds) z = none → l.find? (·.key.isStr z) = none) ∧ (l.any (·.refKey)) = false
  | [], ks, vs, ds, h1, h2, hl, hr => by
    cases ks with
    | cons _ _ => cases h1
    | nil => exact ⟨(fun z d h => by cases ds <;> cases h), fun z _ => rfl, rfl⟩
  | e :: l, ks, vs, ds, h1, h2, hl, hr => by
    cases ks with
    | nil => cases h1
    | cons k ks =>
      rw [List.map_cons, List.map_cons] at h1
      injection h1 with h1 h1'
      cases vs with
      | nil => cases h2
      | cons v vs =>
        cases ds with
        | nil => cases hl
        | cons d ds =>
          obtain ⟨z1, z2⟩ := He.ba (show (He.relB (He.Dv.v K v) e.val && He.relAll (vs.map (He.Dv.v K)) (l.map (·.val))) = true from h2)
          obtain ⟨i1, i2, i3⟩ := tbl_find (K := K) h1' z2 (by simpa using hl) fun j v d hv hd => hr (j + 1) v d (by simpa using hv) (by simpa using hd)
          refine ⟨fun z d' h => ?_, fun z h => ?_, ?_⟩
          · obtain ⟨s1, s2⟩ := isStr_of (z := z) h1
            have h : (if k = z then some d else lookS (rowsOf ks ds) z) = some d' := h
            rw [List.find?_cons, s1]
            by_cases c : k = z
            · rw [if_pos c] at h; cases h
              rw [decide_eq_true c]
              exact ⟨e, _, rfl, He.relB_ok z1, hr 0 v d rfl rfl⟩
            · rw [if_neg c] at h
              rw [decide_eq_false c]
              exact i1 z d' h
          · obtain ⟨s1, s2⟩ := isStr_of (z := z) h1
            have h : (if k = z then some d else lookS (rowsOf ks ds) z) = none := h
            rw [List.find?_cons, s1]
            by_cases c : k = z
            · rw [if_pos c] at h; cases h
            · rw [if_neg c] at h
              rw [decide_eq_false c]
              exact i2 z h
          · rw [List.any_cons, (isStr_of (z := k) h1).2, i3]; rfl
theorem tbl_ok {K : PySem.W.Frag} {w : World} {x : Str} {ks : List Str} {vs : List He.Dv} {ds : List D} (kd : ∃ es n, KDict K w (He.ga K x) es n) (h : tblB x ks vs K = true) (hl : vs.length = ds.length) (hr : ∀ (j : Nat) (v : He.Dv) (d : D), vs[j]? = some v → ds[j]? = some d → ∀ F, Rep K F d (He.Dv.v K v)) : TblAt K w (He.ga K x) (rowsOf ks ds) := by
  obtain ⟨es, n, D⟩ := kd
  unfold tblB at h
  rw [D.at_] at h
  obtain ⟨h1, h2⟩ := He.ba (show (decide (es.toList.map (fun e => He.keyOf e |>.map (·.1)) = ks.map some) && He.relAll (vs.map (He.Dv.v K)) (es.toList.map (·.val))) = true from h)
  obtain ⟨i1, i2, i3⟩ := tbl_find (of_decide_eq_true h1) h2 hl hr
  have ns : ∀ z, PySem.W.nsIn K (He.ga K x) z = (match es.toList.find? (·.key.isStr z) with
      | some e => some (some e.val)
      | none => if es.toList.any (·.refKey) then none else some none) := fun z => by
    unfold PySem.W.nsIn
    rw [D.at_]
    rfl
  refine ⟨⟨es, n, D⟩, fun z d hz => ?_, fun z hz => ?_⟩
  · obtain ⟨e, v, e1, e2, e3⟩ := i1 z d hz
    exact ⟨e.val, v, by rw [ns, e1], e2, e3⟩
  · rw [ns, i2 z hz, i3]; rfl
theorem tbl_strs {K : PySem.W.Frag} {w : World} {x : Str} {ks zs : List Str} (kd : ∃ es n, KDict K w (He.ga K x) es n) (h : tblB x ks (zs.map He.Dv.str) K = true) (ok : ∀ z ∈ zs, SOk z) : TblAt K w (He.ga K x) (rowsOf ks (zs.map D.str)) :=
  tbl_ok kd h (by rw [List.length_map, List.length_map]) fun j v d hv hd F => by
    rw [List.getElem?_map] at hv hd
    obtain ⟨z, hz, rfl⟩ := Option.map_eq_some_iff.mp hv
    rw [hz] at hd
    cases hd
    exact ⟨rfl, ok z (List.mem_of_getElem? hz)⟩
abbrev AlD : Type := (AlX × Bool) × List (Option (List (Option (Str × Int))))
def obsXD (n : Nat) (fb : List (PySem.W.Frag → Bool)) (fa : List He.Fa) (fn : List He.DefD) (tf : List He.Defn) (ts : List He.Tab) (g : Addr → Option Obj) : AlD := (obsXT n fb fa fn tf g, ts.map fun t => He.dicW (He.frT g (asT g n)) (t.1 (He.frT g (asT g n))))
def valXD (fn : List He.DefD) (ts : List He.Tab) (w : World) : AlD := ((valX fn, true), ts.map fun t => some (He.keysIn w.params t.2))
structure SaysXD (fb : List (PySem.W.Frag → Bool)) (fa : List He.Fa) (fn : List He.DefD) (tf : List He.Defn) (ts : List He.Tab) (w : World) (h : Heap) (K : PySem.W.Frag) : Prop extends SaysXT fb fa fn tf h K where
  tab : ∀ t ∈ ts, ∃ es n, KDict K w (t.1 K) es n
theorem saysXD_of {n : Nat} {fb : List (PySem.W.Frag → Bool)} {fa : List He.Fa} {fn : List He.DefD} {tf : List He.Defn} {ts : List He.Tab} {w : World} {h : Heap} (e : obsXD n fb fa fn tf ts h.get? = valXD fn ts w) : SaysXD fb fa fn tf ts w h (He.frT h.get? (asT h.get? n)) := by
  refine ⟨saysXT_of (congrArg (fun z : AlD => z.1) e), fun t ht => ?_⟩
  have e2 : (ts.map fun t => He.dicW (He.frT h.get? (asT h.get? n)) (t.1 (He.frT h.get? (asT h.get? n)))) = ts.map fun t => some (He.keysIn w.params t.2) := congrArg (fun z : AlD => z.2) e
  obtain ⟨i, hi⟩ := List.getElem?_of_mem ht
  have e3 := congrArg (fun l => l[i]?) e2
  simp only [List.getElem?_map, hi, Option.map_some] at e3
  exact He.dicW_ok (Option.some.inj e3)
def obsPD (n : Nat) (fb : List (PySem.W.Frag → Bool)) (fa : List He.Fa) (fn : List He.DefD) (tf : List He.Defn) (ts : List He.Tab) (s : Shared) : AlD := match HandSHeadRun.treeOf s with
  | some x => HandSHeadRun.frS x fun x => obsXD n fb fa fn tf ts (HandSHeadRun.getT x)
  | none => (((false, He.valD fn), false), [])
theorem obsPD_ok {n : Nat} {fb : List (PySem.W.Frag → Bool)} {fa : List He.Fa} {fn : List He.DefD} {tf : List He.Defn} {ts : List He.Tab} {w : World} {s : Shared} (h : obsPD n fb fa fn tf ts s = valXD fn ts w) : obsXD n fb fa fn tf ts s.heap.get? = valXD fn ts w := by
  unfold obsPD at h
  cases e : HandSHeadRun.treeOf s with
  | none =>
    rw [e] at h
    have := congrArg (fun z : AlD => z.1.2) h
    cases this
  | some x =>
    rw [e] at h
    have h2 : (HandSHeadRun.frS x fun x => obsXD n fb fa fn tf ts (HandSHeadRun.getT x)) = valXD fn ts w := h
    rw [HandSHeadRun.frS_eq] at h2
    have ex := (HandSHeadRun.treeOf_eq e).1
    have eg : HandSHeadRun.getT x = s.heap.get? := funext fun a => by rw [HandSHeadRun.getT_eq, ex]
    rw [eg] at h2
    exact h2
def hookPD (n : Nat) (fb : List (PySem.W.Frag → Bool)) (fa : List He.Fa) (fn : List He.DefD) (tf : List He.Defn) (ts : List He.Tab) : PySem.W.Hook where
  α := AlD
  obs := fun s => obsPD n fb fa fn tf ts s
  val := fun w => valXD fn ts w
  says := fun w h => ∃ K : PySem.W.Frag, K.In h ∧ SaysXD fb fa fn tf ts w h K
  of := fun _ _ e => ⟨_, He.frT_in, saysXD_of (obsPD_ok e)⟩
  keeps := fun _ _ _ ⟨K, hK, c⟩ k => ⟨K, PySem.W.Frag.In.keeps hK k, ⟨⟨c.c, c.hd, c.out, fun p hp => k _ _ (c.empty p hp)⟩, c.tab⟩⟩
end L3
set_option Elab.async false
set_option linter.all false
set_option maxRecDepth 100000
set_option maxHeartbeats 1000000
set_option Elab.async false
set_option linter.all false
set_option maxRecDepth 100000
set_option maxHeartbeats 1000000
namespace L3
open PySem PySem.Spec PyProof.Rows L2 ClX
local macro_rules | `(tactic| walk_at "w") => `(tactic| conv => whnf)
section
variable {X : Cx}
theorem pv (i : Nat) {x : Str} {pos : Pos} (hN : X.N[i]? = some x := by rfl) (hv : Vis X.env.scope x := by first | exact Or.inl rfl | exact Or.inr (Or.inl rfl) | exact Or.inr (Or.inr rfl)) (hd : (x == ("__debug__" : Str)) = false := by decide)
    (hcd : (x == ("__classdict__" : Str)) = false := by decide) : PE X (.Name x pos) (tVar i) := pe_var hN hv hd hcd
theorem pe_ink {k : Nat} {bb : Bs} {x : Str} {e : Expr} {es : List Expr} {t : TA} {p1 p2 pos : Pos} (o : InkOk X.prog X.w X.K X.mg X.base k bb x) (hr : Room k X.A) (ha : PA X (e :: es) t) {pl : Sem Bool} (hg : Gl X x := by rfl) (hdb : (x == ("__debug__" : Str)) = false := by decide)
    (hc : eval (.Call (.Attribute (.Name x p1) "__init__" p2) (e :: es) [] pos) X.env = (do
      let ov ← eval (.Name x p1) X.env
      standAt p2.atName
      let (f, first) ← holding [ov] (getMethod ov "__init__" pl)
      callWith pos f first (backTo pos (starEach (e :: es) X.env)) (backToKw pos (keywordEach [] X.env))) := by rfl)
    (he : starEach (e :: es) X.env = (false, eval e X.env) :: starEach es X.env := by rfl) (hpl : (backTo pos (starEach es X.env)).any (·.1) = false := by rfl) :
    PE X (.Call (.Attribute (.Name x p1) "__init__" p2) (e :: es) [] pos) (tCall (spInk X.K bb) [] E0 t) := by
  obtain ⟨fd, ps, F, b⟩ := o.ex
  exact pe_clsInit (pl := pl) hg o.f.gl o.f.r o.f.v o.f.kp F hr b passE0 ha hc he hpl (hdb := hdb)
end
section
variable {P : Program} {w : World} {K : PySem.W.Frag} {mg : Str → Option Value} {base : Heap} {k : Nat} {st : Stmt} {nm : Str} {fs cs : List Str} {bb : Bs}
abbrev inkN : List Str := ["self", "word"]
abbrev tInk (K : PySem.W.Frag) (bb : Bs) : TS := tSeq (tDrop (tBiI K bb (tCons (tVar 0) (tCons (tVar 1) tNil)))) (tOsb K bb "word" (tVar 0) (tVar 1))
theorem inkOk_of {x q : Str} (f : InkF K mg bb x) {fd : FuncData} {dvs : List V} (F : FunD K "__init__" q (defArgs st) (defBody st) (defScope st) dvs [] (He.ma K (He.ga K x) "__init__") fd) (hd : dvs.length = 1) (S : FnScope inkN inkN (defScope st))
    (bind : ∀ (T : Addr) (kV doc pm : Value) (an : Option Addr) (cdv ct : Value) (us its : List Value), us.length = 2 → its.length = 1 → ∃ k, bindArgs (PySem.W.fnOf "__init__" q (defArgs st) (defBody st) (defScope st) (.ref T) kV doc pm an cdv ct) ⟨us, []⟩ = seqItems? (.ref T) >>= k ∧ k (some its.toArray) = pure (inkN.zip (us ++ its.drop 1)))
    (hb : ∀ cdv A outer s H E, PSs (bodyX P w K mg base inkN q st (He.ma K (He.ga K x) "__init__") cdv A outer s H E) (defBody st) (tInk K bb)) : InkOk P w K mg base (k + 1) bb x := by
  obtain ⟨ds, h1, h2⟩ := F.binds1 (ps := inkN) 2 1 (fun e => by rw [e] at hd; cases hd) (by rw [hd]; rfl) fun T kV doc pm an cdv ct us its hu hi => bind T kV doc pm an cdv ct us its hu (by rw [hi, hd])
  have e : dvs.drop 1 = [] := List.drop_eq_nil_of_le (by omega)
  rw [e] at h1
  cases h1
  exact ⟨f, fd, inkN, F.ok S (fun vs H Q E ⟨a, C, w, e, _⟩ => by rw [e]; rfl) (fun cdv A outer s H vs Q E hr h => ⟨_, hb cdv A outer s H E, ink_run h⟩), h2⟩
abbrev badN (fs : List Str) : List Str := "self" :: fs
theorem badOk_of0 (f : BadF K mg bb nm [] cs) {fd : FuncData} {q : Str} (F : FunD K "__init__" q (defArgs st) (defBody st) (defScope st) [] [] (He.ma K (He.ga K nm) "__init__") fd) (S : FnScope (badN []) (badN []) (defScope st))
    (bind : ∀ (kV doc pm : Value) (an : Option Addr) (cdv ct : Value) (us : List Value), us.length = (badN []).length → bindArgs (PySem.W.fnOf "__init__" q (defArgs st) (defBody st) (defScope st) .none kV doc pm an cdv ct) ⟨us, []⟩ = pure ((badN []).zip us))
    (hb : ∀ cdv A outer s H E, Room k (A.deeper (envOfC q (defScope st) s.heap.objs.size (He.ma K (He.ga K nm) "__init__") cdv)) → PSs (bodyX P w K mg base (badN []) q st (He.ma K (He.ga K nm) "__init__") cdv A outer s H E) (defBody st) (tDrop (tCall (spInk K bb) [] E0 (tCons (tVar 0) (tCons (tC (.str nm)) tNil))))) : BadOk P w K mg base (k + 1) nm [] :=
  ⟨⟨bb, f.c⟩, f.gl, _, fd, badN [], f.ini, f.ty, F.ok S (fun vs H Q E ⟨a, ws, e, hl, _⟩ => by rw [e, List.length_cons, hl]; rfl) (fun cdv A outer s H vs Q E hr h => ⟨_, hb cdv A outer s H E hr, bad0_run f.c h⟩), F.bindsN bind⟩
theorem FieldOk.mono {j : Nat} {exs : List Str} (o : FieldOk P w K mg base j exs) (h : j ≤ k) : FieldOk P w K mg base k exs := ⟨o.xf, let ⟨g, fd, a1, a2, a3, run⟩ := o.ex; ⟨g, fd, a1, a2, a3, fun nm a dd oe A outer s H args Q R F M ns xs d hn hr => run nm a dd oe A outer s H args Q R F M ns xs d hn (hr.mono h)⟩⟩
/-- the name of what lambdas of the law are -/
def lawQ : Str := (envOfC "law" ⟨.function, [], false, false, []⟩ 0 0 .none).qual ++ "<lambda>"
abbrev csN : List Str := ["InkError", "Missing", "NothingLeft"]
abbrev csE (K : PySem.W.Frag) : List Value := csN.map fun c => .ref (He.ga K c)
def atB (nm : Str) (K : PySem.W.Frag) : Bool := (["name", "most", "strip", "number", "at"] : List Str).all fun f => He.eqO (PySem.W.findIn K (.ref (He.ga K nm)) f) (some none)
theorem atB_ok {nm : Str} (h : atB nm K = true) : ∀ f ∈ (["name", "most", "strip", "number", "at"] : List Str), PySem.W.findIn K (.ref (He.ga K nm)) f = some none := fun f hf => He.eqO_ok (List.all_eq_true.mp h f hf)
/-- the law's def: its code object is told -/
theorem def_fnL {x : Str} {fd : FuncData} {N ps : List Str} {sp : SpD} {t : DS} (F : FunD K x x (defArgs st) (defBody st) (defScope st) [] [] (He.fAd K (x, none)) fd) (S : FnScope N ps (defScope st))
    (hb : ∀ A outer s H E, Room k (A.deeper (envOfC x (defScope st) s.heap.objs.size (He.fAd K (x, none)) (.ref (He.cT K (x, none)).1))) → PDSs (bodyCx P w K mg base N x st (He.fAd K (x, none)) (.ref (He.cT K (x, none)).1) A outer s H E) (defBody st) t)
    (hr : ∀ ds M Q E, ds.length = ps.length → sp ds M Q E → t { nx := fun _ M' => Q .non M', rt := Q } (startD N ds) M) : FnOk P w K mg base (L2N.CX P w) (k + 1) (He.fAd K (x, none)) fd ps (upSp K ps.length sp) := by
  obtain ⟨oc, od, dV, kV, doc, pm, an, cdv, ct, osl, rfl, lk, hcd, _, _⟩ := F.ex
  obtain ⟨c, ec⟩ := He.codeIn_ref hcd
  have e1 : He.codeOf K (x, none) = c := He.codeOf_eq lk ec
  have e2 : cdv = .ref (He.cT K (x, none)).1 := by rw [ec, ← e1]; rfl
  subst e2
  refine fn_of lk hcd S (fun vs H Q E ⟨R, F, M, ds, Qd, Ed, _, r, hl, _⟩ => by rw [← r.length, hl]) (fun A outer s H vs Q E hroom h => ?_)
  obtain ⟨R, F', M, ds, Qd, Ed, a, r, hl, hsp, kd, kx⟩ := h
  exact ⟨_, (hb A outer s H E hroom).nox, R, F', startD N ds, M, { nx := fun _ M' => Qd .non M', rt := Qd }, a, start_env r, hr ds M Qd Ed hl hsp, ⟨fun F1 H1 M1 env1 σ1 s1 a1 e1 q => kd F1 H1 M1 .non .non s1 a1 rfl q, kd, fun _ _ _ _ _ _ _ _ q => q.elim, fun _ _ _ _ _ _ _ _ q => q.elim⟩⟩
end
def t_law_field_1 (a dd : Addr) : DS := (dSeq (dSet 1 (dC (.str plainW))) (dRet (dIf (dTest (dBin (rInDD id) (dXf a dd "word" (dVar 0)) (dSplit (dVar 1) (dC (.str " "))))) (dC .non) (dXf a dd "at" (dVar 0)))))
def t_law_field (a dd : Addr) : DS := (dSeq (dIfS (dTest (dBin (rInDD id) (dXf a dd "word" (dVar 0)) (dTup (dCons (dC (.str "Taken")) (dCons (dC (.str "NoName")) dNil))))) (dRet (dXf a dd "name" (dVar 0))) dNext)
    (dSeq (dIfS (dTest (dBin (rEqDD id) (dXf a dd "word" (dVar 0)) (dC (.str "TooMany")))) (dRet (dXf a dd "most" (dVar 0))) dNext)
    (dSeq (dIfS (dTest (dBin (rEqDD id) (dXf a dd "word" (dVar 0)) (dC (.str "Still")))) (dRet (dXf a dd "strip" (dVar 0))) dNext)
    (dSeq (dIfS (dTest (dBin (rEqDD id) (dXf a dd "word" (dVar 0)) (dC (.str "NoSaid")))) (dRet (dXf a dd "number" (dVar 0))) dNext)
    (t_law_field_1 a dd)))))
abbrev fieldN : List Str := ["_law_e", "_law_plain"]
theorem split_sok : ∀ y ∈ Txt.split plainW " ", SOk y := by decide +kernel
theorem r_law_field (a dd : Addr) (ns : List Str) (xs : List D) (d : D) (M : Mp) (Q : DK) (h : fieldOf ns xs = some d) (q : Q d M) : t_law_field a dd { nx := fun _ M' => Q .non M', rt := Q } (startD fieldN [.exc a dd ns xs]) M := by
  unfold fieldOf at h
  split at h
  · rename_i w hw
    have neg : ∀ {b : Bool}, b = false → ¬ b = true := fun {b} e z => by rw [e] at z; cases z
    walk_at "w"
    refine ⟨⟨rfl, rfl⟩, ?_⟩
    rw [hw]
    walk_at "w"
    refine ⟨⟨rfl, rfl⟩, ?_⟩
    walk_at "w"
    refine brn_by (fun c => ?_) (fun c => ?_)
    · rw [if_pos (show isS ["Taken", "NoName"] w = true from c)] at h
      walk_at "w"
      refine ⟨⟨rfl, rfl⟩, ?_⟩
      rw [h]; exact q
    rw [if_neg (neg (show isS ["Taken", "NoName"] w = false from c))] at h
    walk_at "w"
    refine ⟨⟨rfl, rfl⟩, ?_⟩
    rw [hw]
    walk_at "w"
    refine ⟨⟨rfl, rfl⟩, ?_⟩
    walk_at "w"
    refine brn_by (fun c => ?_) (fun c => ?_)
    · rw [if_pos (show eqD (.str w) (.str "TooMany") = true from c)] at h
      walk_at "w"
      refine ⟨⟨rfl, rfl⟩, ?_⟩
      rw [h]; exact q
    rw [if_neg (neg (show eqD (.str w) (.str "TooMany") = false from c))] at h
    walk_at "w"
    refine ⟨⟨rfl, rfl⟩, ?_⟩
    rw [hw]
    walk_at "w"
    refine ⟨⟨rfl, rfl⟩, ?_⟩
    walk_at "w"
    refine brn_by (fun c => ?_) (fun c => ?_)
    · rw [if_pos (show eqD (.str w) (.str "Still") = true from c)] at h
      walk_at "w"
      refine ⟨⟨rfl, rfl⟩, ?_⟩
      rw [h]; exact q
    rw [if_neg (neg (show eqD (.str w) (.str "Still") = false from c))] at h
    walk_at "w"
    refine ⟨⟨rfl, rfl⟩, ?_⟩
    rw [hw]
    walk_at "w"
    refine ⟨⟨rfl, rfl⟩, ?_⟩
    walk_at "w"
    refine brn_by (fun c => ?_) (fun c => ?_)
    · rw [if_pos (show eqD (.str w) (.str "NoSaid") = true from c)] at h
      walk_at "w"
      refine ⟨⟨rfl, rfl⟩, ?_⟩
      rw [h]; exact q
    rw [if_neg (neg (show eqD (.str w) (.str "NoSaid") = false from c))] at h
    walk_at "w"
    refine ⟨⟨rfl, rfl⟩, ?_⟩
    rw [hw]
    walk_at "w"
    refine ⟨rfl, by decide +kernel, split_sok, ?_⟩
    walk_at "w"
    refine ⟨⟨rfl, by decide +kernel⟩, ?_⟩
    walk_at "w"
    refine brn_by (fun c => ?_) (fun c => ?_)
    · rw [if_pos (show isS (Txt.split plainW " ") w = true from c)] at h
      cases h
      exact q
    · rw [if_neg (neg (show isS (Txt.split plainW " ") w = false from c))] at h
      walk_at "w"
      refine ⟨⟨rfl, rfl⟩, ?_⟩
      rw [h]; exact q
  · cases h
theorem roomHn {n k : Nat} {A : Around} (hn : n ≤ 200) (hr : L2H.RoomH k A) : A.units + n < cLine := by have := hr.un; omega
theorem markH {k : Nat} {A : Around} (r : Room k A) (h : Option Value) : L2H.RoomH k (A.mark h) := ⟨r.dp, r.un⟩
/-- a law whose lambdas are made by its own code -/
def sp_lawT (tb : Addr) : SpD := fun ds M Q _ => ∃ ns : List Int, ds = [.lsk (ns.map D.int)] ∧ M = mupd (fun _ => none) tb (.tbl lawQ) ∧ ∀ M', Q (.bl true) M'
theorem law_okT (tb : Addr) (ns : List Int) : sp_lawT tb [.lsk (ns.map D.int)] (mupd (fun _ => none) tb (.tbl lawQ)) (fun d _ => d = .bl true) X0 := ⟨ns, rfl, rfl, fun _ => rfl⟩
end L3
set_option Elab.async false
set_option linter.all false
set_option maxRecDepth 100000
set_option maxHeartbeats 0
namespace L3
open PySem PySem.Spec PyProof.Rows L2
def topS (i : Nat) : Stmt := PySem.Challenge.pw_whoseink_k50_deeds_of_a_form.main.body.getD i (.Pass ⟨0, 0, 0, 0⟩)
abbrev s_law_bag : Stmt := topS 9
abbrev s_law_pull : Stmt := topS 10
abbrev s_law_of : Stmt := topS 11
abbrev s_law_letters : Stmt := topS 12
abbrev s_law_signs : Stmt := topS 18
abbrev s_law_names : Stmt := topS 17
abbrev s_law_empty : Stmt := topS 34
abbrev s_law_turns : Stmt := topS 35
abbrev s_law_crew : Stmt := topS 36
abbrev s_law_many : Stmt := topS 37
abbrev s_law_writer : Stmt := topS 19
abbrev s_law_deed_drawn : Stmt := topS 39
abbrev s_law_like : Stmt := topS 13
abbrev s_law_field : Stmt := topS 14
abbrev s_law_tried : Stmt := topS 15
abbrev s_InkError___init__ : Stmt := inClass (topS 1) 0
abbrev s_BadDeed___init__ : Stmt := inClass (topS 4) 0
abbrev s_need_deed : Stmt := topS 7
abbrev s_law_refused : Stmt := topS 16
abbrev s_law : Stmt := topS 40
def dd_law_bag : He.DefD := ⟨("_law_bag", none), "_law_bag", "_law_bag", defArgs s_law_bag, defBody s_law_bag, defScope s_law_bag, [], []⟩
def dd_law_pull : He.DefD := ⟨("_law_pull", none), "_law_pull", "_law_pull", defArgs s_law_pull, defBody s_law_pull, defScope s_law_pull, [], []⟩
def dd_law_of : He.DefD := ⟨("_law_of", none), "_law_of", "_law_of", defArgs s_law_of, defBody s_law_of, defScope s_law_of, [], []⟩
def dd_law_letters : He.DefD := ⟨("_law_letters", none), "_law_letters", "_law_letters", defArgs s_law_letters, defBody s_law_letters, defScope s_law_letters, [], []⟩
def dd_law_signs : He.DefD := ⟨("_law_signs", none), "_law_signs", "_law_signs", defArgs s_law_signs, defBody s_law_signs, defScope s_law_signs, [], []⟩
def dd_law_names : He.DefD := ⟨("_law_names", none), "_law_names", "_law_names", defArgs s_law_names, defBody s_law_names, defScope s_law_names, [], []⟩
def dd_law_empty : He.DefD := ⟨("_law_empty", none), "_law_empty", "_law_empty", defArgs s_law_empty, defBody s_law_empty, defScope s_law_empty, [], []⟩
def dd_law_turns : He.DefD := ⟨("_law_turns", none), "_law_turns", "_law_turns", defArgs s_law_turns, defBody s_law_turns, defScope s_law_turns, [], []⟩
def dd_law_crew : He.DefD := ⟨("_law_crew", none), "_law_crew", "_law_crew", defArgs s_law_crew, defBody s_law_crew, defScope s_law_crew, [], []⟩
def dd_law_many : He.DefD := ⟨("_law_many", none), "_law_many", "_law_many", defArgs s_law_many, defBody s_law_many, defScope s_law_many, [], []⟩
def dd_law_writer : He.DefD := ⟨("_law_writer", none), "_law_writer", "_law_writer", defArgs s_law_writer, defBody s_law_writer, defScope s_law_writer, [], []⟩
def dd_law_deed_drawn : He.DefD := ⟨("_law_deed_drawn", none), "_law_deed_drawn", "_law_deed_drawn", defArgs s_law_deed_drawn, defBody s_law_deed_drawn, defScope s_law_deed_drawn, [], []⟩
def dd_law_like : He.DefD := ⟨("_law_like", none), "_law_like", "_law_like", defArgs s_law_like, defBody s_law_like, defScope s_law_like, [], []⟩
def dd_law_field : He.DefD := ⟨("_law_field", none), "_law_field", "_law_field", defArgs s_law_field, defBody s_law_field, defScope s_law_field, [], []⟩
def dd_law_tried : He.DefD := ⟨("_law_tried", none), "_law_tried", "_law_tried", defArgs s_law_tried, defBody s_law_tried, defScope s_law_tried, [], []⟩
def dd_InkError___init__ : He.DefD := ⟨("InkError", some "__init__"), "__init__", "InkError.__init__", defArgs s_InkError___init__, defBody s_InkError___init__, defScope s_InkError___init__, [.str "InkError"], []⟩
def dd_BadDeed___init__ : He.DefD := ⟨("BadDeed", some "__init__"), "__init__", "BadDeed.__init__", defArgs s_BadDeed___init__, defBody s_BadDeed___init__, defScope s_BadDeed___init__, [], []⟩
def dd_need_deed : He.DefD := ⟨("need_deed", none), "need_deed", "need_deed", defArgs s_need_deed, defBody s_need_deed, defScope s_need_deed, [], []⟩
def dd_law_refused : He.DefD := ⟨("_law_refused", none), "_law_refused", "_law_refused", defArgs s_law_refused, defBody s_law_refused, defScope s_law_refused, [], []⟩
def dd_law : He.DefD := ⟨("law", none), "law", "law", defArgs s_law, defBody s_law, defScope s_law, [], []⟩
def fnl : List He.DefD := [dd_law_bag, dd_law_pull, dd_law_of, dd_law_letters, dd_law_signs, dd_law_names, dd_law_empty, dd_law_turns, dd_law_crew, dd_law_many, dd_law_writer, dd_law_deed_drawn, dd_law_like, dd_law_field, dd_law_tried, dd_InkError___init__, dd_BadDeed___init__, dd_need_deed, dd_law_refused, dd_law]
def fb0 : PySem.W.Frag → Bool := tblB "FORMS" ["come", "leave", "change", "sign", "said", "denied", "unsay", "watch", "unwatch"] [.str "w", .str "n", .str "w", .str "s", .str "bn", .str "bn", .str "b", .str "b", .str "b"]
def fb1 : PySem.W.Frag → Bool := inkB .ve "InkError"
def fb2 : PySem.W.Frag → Bool := badB .ve "BadDeed" [] csN
def fb3 : PySem.W.Frag → Bool := atB "BadDeed"
def fbl : List (PySem.W.Frag → Bool) := [fb0, fb1, fb2, fb3]
def fal : List He.Fa := [.glo "_law_bag", .glo "_law_pull", .glo "_law_of", .glo "_law_letters", .glo "_law_signs", .glo "_law_names", .glo "_law_empty", .glo "_law_turns", .glo "_law_crew", .glo "_law_many", .glo "_law_writer", .glo "_law_deed_drawn", .glo "_law_like", .glo "_law_field", .glo "_law_tried", .glo "need_deed", .glo "_law_refused", .glo "law", .free "all", .free "bool", .free "int", .free "isinstance", .free "len", .free "list", .free "max", .free "range", .free "sorted", .free "str", .free "tuple", .free "zip", .glo "FORMS", .glo "Missing", .glo "NothingLeft", .free "ValueError"]
def tfl : List He.Defn := [("law", none)]
def tsl : List He.Tab := [(fun K => He.ga K "FORMS", ["come", "leave", "change", "sign", "said", "denied", "unsay", "watch", "unwatch"])]
abbrev hk : PySem.W.Hook := hookPD 4 fbl fal fnl tfl tsl
def FP : Prop := ∀ (w : World) (mg : Str → Option Value) (fa : Addr) (h : Heap), hk.says w h → h.Ns mainGlobals mg → mg ("law" : Str) = some (.ref fa) → ∃ K : PySem.W.Frag, K.In h ∧ LamX.LawAtS PySem.Challenge.rw_whoseink_k50_deeds_of_a_form w K (L2N.CX (PySem.W.OpenLaw.prog PySem.Challenge.rw_whoseink_k50_deeds_of_a_form) w) 12 63 "_law_script" mg fa h
/-- the hook, the rest of the proof told with what it says -/
def hkF (F : FP) : PySem.W.Hook where
  α := hk.α
  obs := hk.obs
  val := hk.val
  says := fun w h => hk.says w h ∧ FP
  of := fun w h e => ⟨hk.of w h e, F⟩
  keeps := fun w h h' s k => ⟨hk.keeps w h h' s.1 k, s.2⟩
section
open Lean in
local macro_rules
  | `($f:ident L3.hkX) => do
    let n := f.getId.eraseMacroScopes
    if n == `Hook.obs || n == `Hook.val then `($f L3.hk) else `($f (L3.hkF $(mkIdent `F)))
theorem head_of (F : FP) : PySem.Challenge.rw_whoseink_k50_deeds_of_a_form.Holds := by
  w_on; o_law
  o_head L3.hkX
  case hw => w_witness2
  case hc =>
    refine LamX.walk_ofTsE (l := PySem.Challenge.rw_whoseink_k50_deeds_of_a_form) (n := 63) (k := 12) (x := "_law_script") (CX := (fun w => L2N.CX (PySem.W.OpenLaw.prog PySem.Challenge.rw_whoseink_k50_deeds_of_a_form) w)) rfl (by decide) (by kernel_rfl) ⟨rfl, by decide, by decide⟩ ?F (fun _ _ _ _ _ z => by obtain ⟨_, _, _, _, _, _, _, _, _, _, _, _, z⟩ := z; exact z)
    intro w mg fa h Y G hmg0
    exact Y.2 w mg fa h Y.1 G hmg0
end
end L3
set_option Elab.async false
set_option linter.all false
set_option maxRecDepth 100000
set_option maxHeartbeats 1000000
namespace L3
open PySem PySem.Spec PyProof.Rows L2
local macro_rules | `(tactic| walk_at "w") => `(tactic| conv => whnf)
theorem mupd_comm {M : Mp} {a b : Addr} {x y : MO} (h : a ≠ b) : mupd (mupd M a x) b y = mupd (mupd M b y) a x := by
  funext c
  simp only [mupd]
  by_cases h1 : c = b
  · subst h1; rw [if_pos rfl, if_neg (Ne.symm h), if_pos rfl]
  · rw [if_neg h1, if_neg h1]
theorem cutS_to (x : Str) (k : Nat) : (cutS x none (some (k : Int))).cps.toList = x.cps.toList.take k := by
  unfold cutS
  rw [HT.sIx_none, HT.sIx_nat, List.drop_zero, Nat.sub_zero]
  show x.cps.toList.take _ = _
  have : x.length = x.cps.toList.length := by simp [Str.length]
  rw [this]
  by_cases h : k ≤ x.cps.toList.length
  · rw [Nat.min_eq_left h]
  · rw [Nat.min_eq_right (by omega), List.take_length, List.take_of_length_le (by omega)]
theorem cutS_from (x : Str) (k : Nat) : (cutS x (some (k : Int)) none).cps.toList = x.cps.toList.drop k := by
  unfold cutS
  rw [HT.sIx_none, HT.sIx_nat]
  have hl : x.length = x.cps.toList.length := by simp [Str.length]
  show ((x.cps.toList.drop _).take _) = _
  rw [hl]
  by_cases h : k ≤ x.cps.toList.length
  · rw [Nat.min_eq_left h, List.take_of_length_le (by rw [List.length_drop]; omega)]
  · rw [Nat.min_eq_right (by omega), List.drop_length, List.drop_eq_nil_of_le (by omega)]; simp
theorem app_list (x y : Str) : (x ++ y).cps.toList = x.cps.toList ++ y.cps.toList := by
  have e : (x ++ y).cps = x.cps ++ y.cps := rfl
  rw [e, Array.toList_append]
theorem len_list (x : Str) : x.length = x.cps.toList.length := by simp [Str.length]
theorem join_ones : ∀ {ys : List Str}, (∀ y ∈ ys, ∃ c, y = ⟨#[c]⟩ ∧ isLetter c = true) → (Txt.join (Str.ofString "") ys).cps.toList.length = ys.length ∧ (Txt.join (Str.ofString "") ys).cps.toList.all isLetter = true := by
  intro ys h
  have e : (Txt.join (Str.ofString "") ys).cps.toList = TL.joinL (Str.ofString "").cps.toList (ys.map fun y => y.cps.toList) := by
    rw [TL.join_eq]; exact TL.tl_join _ ys
  have e0 : (Str.ofString "").cps.toList = [] := by decide +kernel
  rw [e, e0]
  have key : ∀ zs : List (List Nat), (∀ z ∈ zs, ∃ c, z = [c] ∧ isLetter c = true) → (TL.joinL [] zs).length = zs.length ∧ (TL.joinL [] zs).all isLetter = true := by
    intro zs
    induction zs with
    | nil => intro _; exact ⟨rfl, rfl⟩
    | cons z zs ih =>
      intro hz
      obtain ⟨c, rfl, hc⟩ := hz z List.mem_cons_self
      have ih' := ih fun y hy => hz y (List.mem_cons_of_mem _ hy)
      cases zs with
      | nil => exact ⟨rfl, by simp [TL.joinL, hc]⟩
      | cons y ys =>
        have ej : TL.joinL [] ([c] :: y :: ys) = c :: TL.joinL [] (y :: ys) := by simp [TL.joinL]
        rw [ej]
        exact ⟨by rw [List.length_cons, ih'.1]; rfl, by rw [List.all_cons, hc, ih'.2]; rfl⟩
  have := key (ys.map fun y => y.cps.toList) fun z hz => by
    obtain ⟨y, hy, rfl⟩ := List.mem_map.mp hz
    obtain ⟨c, rfl, hc⟩ := h y hy
    exact ⟨c, rfl, hc⟩
  rw [List.length_map] at this
  exact this
theorem sum_ones {ys : List Str} (h : ∀ y ∈ ys, y.length = 1) : (ys.map (·.length)).sum = ys.length := by
  induction ys with
  | nil => rfl
  | cons y ys ih =>
    rw [List.map_cons, List.sum_cons, h y List.mem_cons_self, ih fun z hz => h z (List.mem_cons_of_mem _ hz), List.length_cons]
    omega
theorem letter_at {i : Int} (h0 : 0 ≤ i) (h1 : i < 26) : atI letters.cps.toList i = some (97 + i.toNat) := by
  obtain ⟨j, rfl⟩ := Int.eq_ofNat_of_zero_le h0
  rw [letters_list]
  have hj : j < 26 := by omega
  refine atI_nat (j := j) ?_
  rw [List.getElem?_map, List.getElem?_range hj]
  simp [Nat.add_comm]
/-- a drawn name: letters, one to six, a given one at a given place -/
structure NmAt (a c : Nat) (x : Str) : Prop where
  pos : 0 < x.length
  few : x.length ≤ 6
  let_ : x.cps.toList.all isLetter = true
  at_ : x.cps.toList[a]? = some c
theorem NmAt.name {a c : Nat} {x : Str} (h : NmAt a c x) : isName x = true := by
  unfold isName
  rw [decide_eq_true h.pos, decide_eq_true h.few, h.let_]; rfl
/-- the letter of a step -/
def stepL (start step : Int) (k : Nat) : Nat := 97 + ((start + step * k) % 26).toNat
theorem stepL_inj {start step : Int} {i j : Nat} (hs : step = 1 ∨ step = 3 ∨ step = 5 ∨ step = 7) (hi : i < 26) (hj : j < 26) (h : stepL start step i = stepL start step j) : i = j := by
  unfold stepL at h
  have h1 := Int.emod_nonneg (start + step * i) (show (26 : Int) ≠ 0 by decide)
  have h2 := Int.emod_nonneg (start + step * j) (show (26 : Int) ≠ 0 by decide)
  have h3 : (start + step * i) % 26 = (start + step * j) % 26 := by omega
  rcases hs with rfl | rfl | rfl | rfl <;> omega
def sp_law_names : SpD := fun ds M Q _ => ∃ p b n, ds = [.ref p, .int n] ∧ M p = some (.lst (Bag.l b)) ∧ b.Ok ∧ 0 ≤ n ∧ n ≤ 26 ∧
  ∀ (xs : List Str) b', Bag.Ok b' → (xs.length : Int) = n → (∀ x ∈ xs, isName x = true) → xs.Nodup → Q (.lst (xs.map D.str)) (mupd M p (.lst b'.l))
def t_law_names_1 : DS := (dFrzN 9 (dRet (dVar 9)))
def t_law_names : DS := (dSeq (dAsg (dTup (dCons (dBin rAddD (dC (.int 1)) (dCall sp_law_pull (dCons (dVar 0) (dCons (dC (.int 6)) dNil)))) (dCons (dCall sp_law_letters dNil) dNil))) (.tup [(.name 4), (.name 5)]))
    (dSeq (dPar 6 7 (dCons (dCall sp_law_pull (dCons (dVar 0) (dCons (dVar 4) dNil))) (dCons (dCall sp_law_pull (dCons (dVar 0) (dCons (dC (.int 26)) dNil))) dNil)))
    (dSeq (dSet 2 (dCall sp_law_of (dCons (dVar 0) (dCons (dLst (dCons (dC (.int 1)) (dCons (dC (.int 3)) (dCons (dC (.int 5)) (dCons (dC (.int 7)) dNil))))) dNil))))
    (dSeq (dPar 8 9 (dCons (dJoin (dC (.str "")) (dLc (iRange1 (dCons (dVar 4) dNil)) (.name 3) dYes (dCall sp_law_of (dCons (dVar 0) (dCons (dVar 5) dNil))) [3])) (dCons (dLstM dNil) dNil)))
    (dSeq (dFor (iRange1 (dCons (dVar 1) dNil)) (.name 3) (dSeq (dSet 10 (dBin rIxD (dVar 5) (dBin rModI (dBin rAddD (dVar 7) (dBin rMulI (dVar 2) (dVar 3))) (dC (.int 26)))))
    (dSeq (dSet 11 (dBin rAddD (dBin rAddD (dSl (dVar 8) dNoPart (dPart (dVar 6))) (dVar 10)) (dSl (dVar 8) (dPart (dBin rAddD (dVar 6) (dC (.int 1)))) dNoPart)))
    (dDrop (dAppend (dVar 9) (dIf (dTest (dBin (rEqDD id) (dCall sp_law_pull (dCons (dVar 0) (dCons (dC (.int 3)) dNil))) (dC (.int 0)))) (dSl (dVar 11) dNoPart (dPart (dBin rMaxI (dBin rAddD (dVar 6) (dC (.int 1))) (dBin rSubI (dVar 4) (dVar 3))))) (dVar 11)))))))
    t_law_names_1)))))
theorem r_law_names (ds : List D) (M : Mp) (Q : DK) (E : DX) (hl : ds.length = 2) (h : sp_law_names ds M Q E) : t_law_names { nx := fun _ M' => Q .non M', rt := Q } (startD ["_law_bag_here", "_law_many", "_law_step", "_law_k", "_law_size", "_law_letters_here", "_law_at", "_law_start", "_law_base", "_law_found", "_law_sign", "_law_name"] ds) M := by
  obtain ⟨p, b, n, rfl, hM, hb, h0, h1, q⟩ := h
  walk_at "w"
  refine ⟨p, b, 6, rfl, hM, hb, by decide, by decide, fun r1 b1 hb1 r10 r11 => ?_⟩
  walk_at "w"
  refine ⟨rfl, ?_⟩
  walk_at "w"
  refine ⟨p, b1, 1 + r1, rfl, mupd_same, hb1, by omega, by omega, fun r2 b2 hb2 r20 r21 => ?_⟩
  rw [mupd_mupd]
  walk_at "w"
  refine ⟨p, b2, 26, rfl, mupd_same, hb2, by decide, by decide, fun r3 b3 hb3 r30 r31 => ?_⟩
  rw [mupd_mupd]
  walk_at "w"
  refine ⟨p, b3, .lst [.int 1, .int 3, .int 5, .int 7], [.int 1, .int 3, .int 5, .int 7], rfl, mupd_same, hb3, by decide, by decide, .inl ⟨rfl, fun e => by cases e⟩, fun y b4 hb4 hy => ?_⟩
  rw [mupd_mupd]
  obtain ⟨st, rfl, hst⟩ : ∃ st : Int, y = .int st ∧ (st = 1 ∨ st = 3 ∨ st = 5 ∨ st = 7) := by
    simp only [List.mem_cons, List.not_mem_nil, or_false] at hy
    rcases hy with rfl | rfl | rfl | rfl <;> exact ⟨_, rfl, by omega⟩
  walk_at "w"
  refine ⟨⟨by omega, by omega⟩, ?_⟩
  walk_at "w"
  refine lc_inv (fun i acc M' => ∃ b' ys, Bag.Ok b' ∧ M' = mupd M p (.lst b'.l) ∧ acc = ys.map D.str ∧ ys.length = i ∧ ∀ y ∈ ys, ∃ c, y = ⟨#[c]⟩ ∧ isLetter c = true) ⟨b4, [], hb4, rfl, rfl, rfl, fun y hy => by cases hy⟩ (fun i x acc M' K hx ⟨b', ys, hb', e1, e2, e3, e4⟩ hK => ?_) fun acc M' ⟨b', ys, hb', e1, e2, e3, e4⟩ => ?_
  · subst e1 e2
    walk_at "w"
    refine ⟨p, b', .str letters, signs letters, rfl, mupd_same, hb', by decide +kernel, by decide +kernel, .inr (.inr ⟨letters, rfl, rfl⟩), fun x b2 hb2 hx => ?_⟩
    obtain ⟨c, hc, rfl⟩ := List.mem_map.mp hx
    have hc' := (mem_letters c).mp hc
    refine hK _ _ ⟨b2, ys ++ [⟨#[c]⟩], hb2, by rw [mupd_mupd], by simp [sgn], by simp [e3], fun y hy => ?_⟩
    rcases List.mem_append.mp hy with hy | hy
    · exact e4 y hy
    · rw [List.mem_singleton.mp hy]; exact ⟨c, rfl, hc'⟩
  · subst e1 e2
    rw [rng_length] at e3
    walk_at "w"
    rw [asStrs_map]
    walk_at "w"
    have hj := join_ones e4
    have hs : (ys.map (·.length)).sum = ys.length := sum_ones fun y hy => by obtain ⟨c, rfl, _⟩ := e4 y hy; rfl
    have h00 : (Str.ofString "").length = 0 := by decide +kernel
    refine ⟨by rw [hs, h00]; omega, ?_⟩
    generalize Txt.join (Str.ofString "") ys = base at hj ⊢
    obtain ⟨bl, bLet⟩ := hj
    have hbl : (base.cps.toList.length : Int) = 1 + r1 := by rw [bl, e3]; omega
    walk_at "w"
    intro qa hqa
    have hpq : qa ≠ p := fun e => by rw [e, mupd_same] at hqa; cases hqa
    walk_at "w"
    refine ⟨⟨by omega, by omega⟩, ?_⟩
    walk_at "w"
    obtain ⟨at_, rfl⟩ := Int.eq_ofNat_of_zero_le r20
    refine for_inv (fun i env M' => ∃ k s10 s11 b', ∃ xs : List Str, env = [some (.ref p), some (.int n), some (.int st), k, some (.int (1 + r1)), some (.str letters), some (.int (at_ : Int)), some (.int r3), some (.str base), some (.ref qa), s10, s11] ∧ Bag.Ok b' ∧ M' = mupd (mupd M p (.lst b'.l)) qa (.lst (xs.map D.str)) ∧ xs.length = i ∧ ∀ j x, xs[j]? = some x → NmAt at_ (stepL r3 st j) x)
      ⟨none, none, none, b', [], rfl, hb', rfl, rfl, fun j x hx => by simp at hx⟩ (fun i x env M' K hx ⟨k, s10, s11, b5, xs, e1, hb5, e2, e3, e4⟩ hK => ?_) fun env M' ⟨k, s10, s11, b5, xs, e1, hb5, e2, e3, e4⟩ => ?_
    · obtain ⟨hi, rfl⟩ := rng_at hx
      subst e1 e2
      have hmod0 := Int.emod_nonneg (r3 + st * (0 + (i : Int))) (show (26 : Int) ≠ 0 by decide)
      have hmod1 := Int.emod_lt_of_pos (r3 + st * (0 + (i : Int))) (show (0 : Int) < 26 by decide)
      walk_at "w"
      refine ⟨.inr ?_, ?_⟩
      · clear hmod0 hmod1 hbl
        omega
      walk_at "w"
      refine ⟨by show (0 : Int) < 26; decide, ?_⟩
      walk_at "w"
      rw [letter_at hmod0 hmod1]
      walk_at "w"
      have eL : (97 + ((r3 + st * (0 + (i : Int))) % 26).toNat) = stepL r3 st i := by unfold stepL; rw [Int.zero_add]
      rw [eL]
      have hcl : isLetter (stepL r3 st i) = true := by
        rw [← eL]; unfold isLetter
        rw [decide_eq_true (show 97 ≤ 97 + ((r3 + st * (0 + (i : Int))) % 26).toNat by omega), decide_eq_true (show 97 + ((r3 + st * (0 + (i : Int))) % 26).toNat ≤ 122 by omega)]; rfl
      generalize hcE : stepL r3 st i = c at hcl ⊢
      clear hmod0 hmod1 eL
      have hat : at_ < base.cps.toList.length := by omega
      have ca := cutS_to base at_
      have cb := cutS_from base (at_ + 1)
      have e11 : ((at_ + 1 : Nat) : Int) = (at_ : Int) + 1 := by omega
      rw [e11] at cb
      have la := congrArg List.length ca
      have lb := congrArg List.length cb
      rw [List.length_take, ← len_list] at la
      rw [List.length_drop, ← len_list] at lb
      refine ⟨by rw [sizeLine_eq, la]; show _ + 1 ≤ _; omega, ?_⟩
      walk_at "w"
      have l1 : (cutS base none (some (at_ : Int)) ++ (⟨#[c]⟩ : Str)).length = (cutS base none (some (at_ : Int))).length + 1 := by
        rw [len_list, app_list, List.length_append, ← len_list]; rfl
      refine ⟨by rw [sizeLine_eq, l1, la, lb]; omega, ?_⟩
      have hnm : NmAt at_ c (cutS base none (some (at_ : Int)) ++ (⟨#[c]⟩ : Str) ++ cutS base (some ((at_ : Int) + 1)) none) := by
        have el : (cutS base none (some (at_ : Int)) ++ (⟨#[c]⟩ : Str) ++ cutS base (some ((at_ : Int) + 1)) none).cps.toList = base.cps.toList.take at_ ++ c :: base.cps.toList.drop (at_ + 1) := by
          rw [app_list, app_list, ca, cb]; simp
        refine ⟨?_, ?_, ?_, ?_⟩
        · rw [len_list, el, List.length_append, List.length_cons]; exact Nat.lt_of_lt_of_le (Nat.succ_pos _) (Nat.le_add_left _ _)
        · clear la lb ca cb
          rw [len_list, el, List.length_append, List.length_cons, List.length_take, List.length_drop]; omega
        · rw [el, List.all_append, List.all_cons, hcl, Bool.true_and, Bool.and_eq_true]
          rw [List.all_eq_true] at bLet
          exact ⟨List.all_eq_true.mpr fun z hz => bLet z (List.mem_of_mem_take hz), List.all_eq_true.mpr fun z hz => bLet z (List.mem_of_mem_drop hz)⟩
        · rw [el, List.getElem?_append_right (by rw [List.length_take]; exact Nat.min_le_left _ _), List.length_take, Nat.min_eq_left (Nat.le_of_lt hat), Nat.sub_self]; rfl
      clear l1 la lb ca cb e11
      generalize (cutS base none (some (at_ : Int)) ++ (⟨#[c]⟩ : Str) ++ cutS base (some ((at_ : Int) + 1)) none) = nm at hnm ⊢
      walk_at "w"
      refine ⟨?_, ?_⟩
      · walk_at "w"
        rw [mupd_same]
        trivial
      walk_at "w"
      refine ⟨p, b5, 3, rfl, by rw [mupd_ne (Ne.symm hpq), mupd_same], hb5, by decide, by decide, fun r4 b6 hb6 r40 r41 => ?_⟩
      rw [mupd_comm hpq, mupd_mupd]
      walk_at "w"
      refine ⟨⟨rfl, rfl⟩, ?_⟩
      have fin : ∀ y, NmAt at_ c y → (xs.map D.str).length < sizeLine ∧ K ((([some (D.ref p), some (D.int n), some (D.int st), k, some (D.int (1 + r1)), some (D.str letters), some (D.int (at_ : Int)), some (D.int r3), some (D.str base), some (D.ref qa), s10, s11].set 3 (some (D.int (0 + (i : Int))))).set 10 (some (sgn c))).set 11 (some (D.str nm))) (mupd (mupd (mupd M p (.lst b6.l)) qa (.lst (xs.map D.str))) qa (.lst (xs.map D.str ++ [.str y]))) := fun y hy =>
        ⟨by rw [List.length_map, sizeLine_eq]; omega, hK _ _ ⟨_, _, _, b6, xs ++ [y], rfl, hb6, by rw [mupd_mupd, List.map_append]; rfl, by rw [List.length_append, e3]; rfl, fun j x hx2 => by
          by_cases hj : j < xs.length
          · rw [List.getElem?_append_left hj] at hx2; exact e4 j x hx2
          · rw [List.getElem?_append_right (by omega)] at hx2
            have hj0 : j = i := by
              have := (List.getElem?_eq_some_iff.mp hx2).1
              simp at this
              omega
            subst hj0
            rw [e3, Nat.sub_self] at hx2
            cases hx2
            rw [hcE]; exact hy⟩⟩
      walk_at "w"
      refine brn_by (fun hc => ?_) fun hc => ?_
      · walk_at "w"
        have hm : ∃ m : Nat, (if (1 + r1 - (0 + (i : Int))) > ((at_ : Int) + 1) then (1 + r1 - (0 + (i : Int))) else ((at_ : Int) + 1)) = (m : Int) ∧ at_ < m := by
          split
          · exact ⟨(1 + r1 - (0 + (i : Int))).toNat, by omega, by omega⟩
          · exact ⟨at_ + 1, by omega, by omega⟩
        obtain ⟨m, em, hm⟩ := hm
        have hnm2 : NmAt at_ c (cutS nm none (some (m : Int))) := by
          have cm := cutS_to nm m
          have h1 := hnm.pos
          have h2 := hnm.few
          have h3 := hnm.let_
          rw [len_list] at h1 h2
          refine ⟨by rw [len_list, cm, List.length_take]; omega, by rw [len_list, cm, List.length_take]; omega, ?_, ?_⟩
          · rw [cm]
            rw [List.all_eq_true] at h3 ⊢
            exact fun z hz => h3 z (List.mem_of_mem_take hz)
          · rw [cm, List.getElem?_take, if_pos hm]; exact hnm.at_
        rw [em]
        rw [mupd_same]
        walk_at "w"
        refine fin _ hnm2
      · walk_at "w"
        rw [mupd_same]
        walk_at "w"
        refine fin _ hnm
    · subst e1 e2
      rw [rng_length] at e3
      walk_at "w"
      rw [mupd_same]
      walk_at "w"
      rw [mdel_mupd (by rw [mupd_ne hpq]; rw [mupd_ne hpq] at hqa; exact hqa)]
      refine q xs b5 hb5 (by omega) (fun x hx => ?_) ?_
      · obtain ⟨j, hj⟩ := List.getElem?_of_mem hx
        exact (e4 j x hj).name
      · rw [List.nodup_iff_pairwise_ne, List.pairwise_iff_getElem]
        intro i j hi hj hij e
        have h1 := e4 i xs[i] (List.getElem?_eq_getElem hi)
        have h2 := e4 j xs[j] (List.getElem?_eq_getElem hj)
        rw [e] at h1
        have := stepL_inj hst (by omega) (by omega) (Option.some.inj (h1.at_.symm.trans h2.at_))
        omega
theorem leD_str {a b : Str} : leD (.str a) (.str b) = decide (a.cps.toList ≤ b.cps.toList) := by
  show (!PySem.W.dataLt (.str b) (.str a)) = _
  rw [PySem.W.dataLt_str, PySem.W.not_lt_str]
theorem one_le {a b : Nat} : ([a] ≤ [b]) ↔ a ≤ b := by
  rw [← List.not_lt, ← Nat.not_lt]
  constructor
  · intro h q; exact h (List.Lex.rel q)
  · intro h q
    cases q with
    | rel q => exact h q
    | cons q => cases q
theorem leD_sgn {a b : Nat} : leD (sgn a) (sgn b) = decide (a ≤ b) := by
  unfold sgn
  rw [leD_str, decide_eq_decide]
  exact one_le
theorem sortD_pw (ds : List D) : (sortD ds).Pairwise (fun a b => leD a b = true) := PySem.W.sort_pairwise (PySem.W.sortLe_total _ false _) ds
theorem sortD_sgns (cs : List Nat) : ∃ ys : List Nat, sortD (cs.map sgn) = ys.map sgn ∧ ys.Perm cs ∧ ys.Pairwise (· ≤ ·) := by
  have e := (PySem.W.sort_maps (r := fun a b => decide (a ≤ b)) (s := leD) sgn (l := cs) fun a _ b _ => leD_sgn.symm)
  refine ⟨_, e.symm, List.mergeSort_perm _ _, ?_⟩
  have h := sortD_pw (cs.map sgn)
  unfold sortD at h
  rw [← e, List.pairwise_map] at h
  exact h.imp fun h => of_decide_eq_true (leD_sgn ▸ h)
theorem les_flat {n : Nat} {ds : List D} (h : ∀ d ∈ ds, flatD d = true) : D.les n ds = true := les_of fun d hd => by
  have := h d hd
  cases d <;> first | (cases n <;> rfl) | cases this
theorem srt_strs (xs : List Str) : SrtOk (xs.map D.str) := by
  refine ⟨?_, ?_⟩
  · rw [List.map_map]; exact PySem.W.AllAlike.of fun b b' => by simp [D.py, PySem.W.alike]
  · rw [List.map_map]; exact PySem.W.Sortable.others fun b => ⟨by simp [D.py], by simp [D.py]⟩
theorem sgns_strs (cs : List Nat) : cs.map sgn = (cs.map fun c => (⟨#[c]⟩ : Str)).map D.str := by rw [List.map_map]; rfl
theorem le_nodup_lt {α : Type} {xs : List α} {le lt : α → α → Prop} (h : xs.Pairwise le) (hn : xs.Nodup) (hl : ∀ a b, le a b → a ≠ b → lt a b) : xs.Pairwise lt := by
  have := List.Pairwise.and h hn
  exact this.imp fun ⟨a, b⟩ => hl _ _ a b
/-- a row of letters that rises -/
structure SgOk (cs : List Nat) : Prop where
  let_ : ∀ c ∈ cs, isLetter c = true
  up : cs.Pairwise (· < ·)
theorem SgOk.few {cs : List Nat} (h : SgOk cs) : cs.length ≤ 26 := by
  have h1 : cs.Nodup := h.up.imp fun q => Nat.ne_of_lt q
  have h2 : ∀ c ∈ cs, c ∈ (List.range 26).map (· + 97) := fun c hc => by
    have := (mem_letters c).mpr (h.let_ c hc)
    rwa [letters_list] at this
  have := L2.nat_nodup_len cs _ h1 h2
  simpa using this
def sp_law_signs : SpD := fun ds M Q _ => ∃ p b n, ds = [.ref p, .int n] ∧ M p = some (.lst (Bag.l b)) ∧ b.Ok ∧ 0 < n ∧ n ≤ 26 ∧
  ∀ (cs : List Nat) b', Bag.Ok b' → SgOk cs → 0 < cs.length → (cs.length : Int) ≤ n → Q (.lst (cs.map sgn)) (mupd M p (.lst b'.l))
def t_law_signs : DS := (dSeq (dAsg (dTup (dCons (dCall sp_law_pull (dCons (dVar 0) (dCons (dC (.int 26)) dNil))) (dCons (dCall sp_law_of (dCons (dVar 0) (dCons (dLst (dCons (dC (.int 1)) (dCons (dC (.int 3)) (dCons (dC (.int 5)) (dCons (dC (.int 7)) dNil))))) dNil))) dNil))) (.tup [(.name 2), (.name 3)]))
    (dSeq (dAsg (dTup (dCons (dBin rAddD (dC (.int 1)) (dCall sp_law_pull (dCons (dVar 0) (dCons (dVar 1) dNil)))) (dCons (dCall sp_law_letters dNil) dNil))) (.tup [(.name 4), (.name 5)]))
    (dRet (dUn rSortD (dLc (iRange1 (dCons (dVar 4) dNil)) (.name 6) dYes (dBin rIxD (dVar 5) (dBin rModI (dBin rAddD (dVar 2) (dBin rMulI (dVar 3) (dVar 6))) (dC (.int 26)))) [6])))))
theorem r_law_signs (ds : List D) (M : Mp) (Q : DK) (E : DX) (hl : ds.length = 2) (h : sp_law_signs ds M Q E) : t_law_signs { nx := fun _ M' => Q .non M', rt := Q } (startD ["_law_bag_here", "_law_limit", "_law_start", "_law_step", "_law_many", "_law_letters_here", "_law_k"] ds) M := by
  obtain ⟨p, b, n, rfl, hM, hb, h0, h1, q⟩ := h
  walk_at "w"
  refine ⟨p, b, 26, rfl, hM, hb, by decide, by decide, fun r3 b1 hb1 r30 r31 => ?_⟩
  walk_at "w"
  refine ⟨p, b1, .lst [.int 1, .int 3, .int 5, .int 7], [.int 1, .int 3, .int 5, .int 7], rfl, mupd_same, hb1, by decide, by decide, .inl ⟨rfl, fun e => by cases e⟩, fun y b2 hb2 hy => ?_⟩
  rw [mupd_mupd]
  obtain ⟨st, rfl, hst⟩ : ∃ st : Int, y = .int st ∧ (st = 1 ∨ st = 3 ∨ st = 5 ∨ st = 7) := by
    simp only [List.mem_cons, List.not_mem_nil, or_false] at hy
    rcases hy with rfl | rfl | rfl | rfl <;> exact ⟨_, rfl, by omega⟩
  walk_at "w"
  refine ⟨p, b2, n, rfl, mupd_same, hb2, h0, by omega, fun r4 b3 hb3 r40 r41 => ?_⟩
  rw [mupd_mupd]
  walk_at "w"
  refine ⟨rfl, ?_⟩
  walk_at "w"
  refine ⟨⟨by omega, by omega⟩, ?_⟩
  walk_at "w"
  refine lc_inv (fun i acc M' => M' = mupd M p (.lst b3.l) ∧ acc = ((List.range i).map (stepL r3 st)).map sgn) ⟨rfl, rfl⟩ (fun i x acc M' K hx ⟨e1, e2⟩ hK => ?_) fun acc M' ⟨e1, e2⟩ => ?_
  · obtain ⟨hi, rfl⟩ := rng_at hx
    subst e1
    have hmod0 := Int.emod_nonneg (r3 + st * (0 + (i : Int))) (show (26 : Int) ≠ 0 by decide)
    have hmod1 := Int.emod_lt_of_pos (r3 + st * (0 + (i : Int))) (show (0 : Int) < 26 by decide)
    walk_at "w"
    refine ⟨.inr ?_, ?_⟩
    · rcases hst with rfl | rfl | rfl | rfl <;> omega
    walk_at "w"
    refine ⟨by show (0 : Int) < 26; decide, ?_⟩
    walk_at "w"
    rw [letter_at hmod0 hmod1]
    refine hK _ _ ⟨rfl, ?_⟩
    have eL : (97 + ((r3 + st * (0 + (i : Int))) % 26).toNat) = stepL r3 st i := by unfold stepL; rw [Int.zero_add]
    rw [e2, eL, List.range_succ, List.map_append, List.map_append]; rfl
  · subst e1 e2
    rw [rng_length]
    generalize hk : (1 + r4).toNat = k
    have hk1 : k ≤ 26 := by omega
    walk_at "w"
    refine ⟨⟨les_flat fun d hd => ?_, by rw [sgns_strs]; exact srt_strs _⟩, ?_⟩
    · obtain ⟨c, _, rfl⟩ := List.mem_map.mp hd; rfl
    obtain ⟨ys, e1, e2, e3⟩ := sortD_sgns ((List.range k).map (stepL r3 st))
    rw [e1]
    have hnd : ((List.range k).map (stepL r3 st)).Nodup := by
      rw [List.nodup_iff_pairwise_ne, List.pairwise_map]
      refine List.Pairwise.imp_of_mem ?_ List.nodup_range
      intro a b ha hb hne e
      exact hne (stepL_inj hst (by have := List.mem_range.mp ha; omega) (by have := List.mem_range.mp hb; omega) e)
    have hlen : ys.length = k := by rw [e2.length_eq]; simp
    refine q ys b3 hb3 ⟨fun c hc => ?_, le_nodup_lt e3 (e2.nodup_iff.mpr hnd) fun a b h1 h2 => by omega⟩ (by omega) (by omega)
    obtain ⟨i, hi, rfl⟩ := List.mem_map.mp (e2.mem_iff.mp hc)
    have hmod0 := Int.emod_nonneg (r3 + st * (i : Int)) (show (26 : Int) ≠ 0 by decide)
    have hmod1 := Int.emod_lt_of_pos (r3 + st * (i : Int)) (show (0 : Int) < 26 by decide)
    unfold stepL isLetter
    rw [decide_eq_true (show 97 ≤ 97 + ((r3 + st * (i : Int)) % 26).toNat by omega), decide_eq_true (show 97 + ((r3 + st * (i : Int)) % 26).toNat ≤ 122 by omega)]; rfl
/-- an arrow: place, sign, to -/
structure Ar where
  at_ : Int
  sg : Str
  to : Int
structure Wr where
  name : Str
  ar : List Ar
  pat : Int
  cap : Int
def arD (a : Ar) : D := .tup [.int a.at_, .str a.sg, .int a.to]
def wrD (w : Wr) : D := .tup [.str w.name, .tup (w.ar.map arD), .int w.pat, .int w.cap]
/-- arrows of a writer that is one: places and signs rise -/
def arLt (a b : Ar) : Prop := a.at_ < b.at_ ∨ (a.at_ = b.at_ ∧ a.sg.cps.toList < b.sg.cps.toList)
structure ArOk (a : Ar) : Prop where
  at0 : 0 ≤ a.at_
  at1 : a.at_ ≤ 2
  sg : ∃ c, a.sg = ⟨#[c]⟩ ∧ isLetter c = true
  to0 : 0 ≤ a.to
  to1 : a.to ≤ 2
structure WrOk (w : Wr) : Prop where
  name : isName w.name = true
  few : w.ar.length ≤ 9
  ar : ∀ a ∈ w.ar, ArOk a
  up : w.ar.Pairwise arLt
  pat0 : 0 ≤ w.pat
  pat1 : w.pat ≤ 3
  cap0 : 0 ≤ w.cap
  cap1 : w.cap ≤ 3
/-- what is drawn: the name is as it was handed -/
structure WrDr (name : Str) (places : Int) (cs : List Nat) (w : Wr) : Prop where
  name : w.name = name
  few : w.ar.length ≤ 9
  ar : ∀ a ∈ w.ar, 0 ≤ a.at_ ∧ a.at_ < places ∧ (∃ c ∈ cs, a.sg = ⟨#[c]⟩) ∧ 0 ≤ a.to ∧ a.to < places
  up : w.ar.Pairwise arLt
  pat0 : 0 ≤ w.pat
  pat1 : w.pat ≤ 3
  cap0 : 0 ≤ w.cap
  cap1 : w.cap ≤ 3
theorem WrDr.ok {name : Str} {places : Int} {cs : List Nat} {w : Wr} (h : WrDr name places cs w) (hn : isName name = true) (hp : places ≤ 3) (hc : SgOk cs) : WrOk w :=
  ⟨by rw [h.name]; exact hn, h.few, fun a ha => by
    obtain ⟨h1, h2, ⟨c, hcs, h3⟩, h4, h5⟩ := h.ar a ha
    exact ⟨h1, by omega, ⟨c, h3, hc.let_ c hcs⟩, h4, by omega⟩, h.up, h.pat0, h.pat1, h.cap0, h.cap1⟩
def sp_law_writer : SpD := fun ds M Q _ => ∃ p b name n cs thick, ds = [.ref p, .str name, .int n, .lst (cs.map sgn), .int thick] ∧ M p = some (.lst (Bag.l b)) ∧ b.Ok ∧ 0 < n ∧ n ≤ 3 ∧ SgOk cs ∧
  ∀ w b', Bag.Ok b' → WrDr name n cs w → Q (wrD w) (mupd M p (.lst b'.l))
def t_law_writer_1 : DS := (dSeq (dFrzN 5 (dSet 7 (dLst (dCons (dC (.int 0)) (dCons (dC (.int 0)) (dCons (dC (.int 0)) (dCons (dC (.int 1)) (dCons (dC (.int 2)) (dCons (dC (.int 3)) dNil)))))))))
    (dRet (dTup (dCons (dVar 1) (dCons (dUn rTupleD (dVar 5)) (dCons (dCall sp_law_of (dCons (dVar 0) (dCons (dVar 7) dNil))) (dCons (dCall sp_law_of (dCons (dVar 0) (dCons (dVar 7) dNil))) dNil)))))))
def t_law_writer : DS := (dSeq (dSet 5 (dLstM dNil))
    (dSeq (dFor (iRange1 (dCons (dVar 2) dNil)) (.name 6) (dFor (iLst (dVar 3)) (.name 8) (dIfS (dAnd (dTest (dBin rLtI (dUn rLenD (dVar 5)) (dC (.int 9)))) (dTest (dBin rLtI (dCall sp_law_pull (dCons (dVar 0) (dCons (dC (.int 8)) dNil))) (dVar 4)))) (dDrop (dAppend (dVar 5) (dTup (dCons (dVar 6) (dCons (dVar 8) (dCons (dCall sp_law_pull (dCons (dVar 0) (dCons (dVar 2) dNil))) dNil)))))) dNext)))
    t_law_writer_1))
/-- arrows made so far: at places before i, at place i of the first j signs -/
structure ArsAt (n : Int) (cs : List Nat) (i j : Nat) (as : List Ar) : Prop where
  few : as.length ≤ 9
  ar : ∀ a ∈ as, 0 ≤ a.at_ ∧ a.at_ < n ∧ (∃ c ∈ cs, a.sg = ⟨#[c]⟩) ∧ 0 ≤ a.to ∧ a.to < n
  up : as.Pairwise arLt
  low : ∀ a ∈ as, a.at_ < i ∨ (a.at_ = i ∧ ∃ k c, k < j ∧ cs[k]? = some c ∧ a.sg = ⟨#[c]⟩)
theorem sgn_lt {a b : Nat} (h : a < b) : (⟨#[a]⟩ : Str).cps.toList < (⟨#[b]⟩ : Str).cps.toList := List.Lex.rel h
theorem ArsAt.more {n : Int} {cs : List Nat} {i j c : Nat} {as : List Ar} (h : ArsAt n cs i j as) (hup : cs.Pairwise (· < ·)) (hi : (i : Int) < n) (hc : cs[j]? = some c) (h9 : as.length < 9) {t : Int} (t0 : 0 ≤ t) (t1 : t < n) : ArsAt n cs i (j + 1) (as ++ [⟨(i : Int), ⟨#[c]⟩, t⟩]) := by
  refine ⟨by simp; omega, fun a ha => ?_, ?_, fun a ha => ?_⟩
  · rcases List.mem_append.mp ha with ha | ha
    · exact h.ar a ha
    · rw [List.mem_singleton.mp ha]
      exact ⟨by show (0 : Int) ≤ i; omega, hi, ⟨c, List.mem_of_getElem? hc, rfl⟩, t0, t1⟩
  · rw [List.pairwise_append]
    refine ⟨h.up, by simp, fun a ha b hb => ?_⟩
    rw [List.mem_singleton.mp hb]
    rcases h.low a ha with q | ⟨q, k, c', hk, hck, e⟩
    · exact .inl q
    · refine .inr ⟨q, ?_⟩
      rw [e]
      have h1 := (List.getElem?_eq_some_iff.mp hck)
      have h2 := (List.getElem?_eq_some_iff.mp hc)
      have := List.pairwise_iff_getElem.mp hup k j h1.1 h2.1 hk
      rw [h1.2, h2.2] at this
      exact sgn_lt this
  · rcases List.mem_append.mp ha with ha | ha
    · rcases h.low a ha with q | ⟨q, k, c', hk, hck, e⟩
      · exact .inl q
      · exact .inr ⟨q, k, c', by omega, hck, e⟩
    · rw [List.mem_singleton.mp ha]
      exact .inr ⟨rfl, j, c, by omega, hc, rfl⟩
theorem ArsAt.skip {n : Int} {cs : List Nat} {i j : Nat} {as : List Ar} (h : ArsAt n cs i j as) : ArsAt n cs i (j + 1) as :=
  ⟨h.few, h.ar, h.up, fun a ha => (h.low a ha).imp id fun ⟨q, k, c, hk, r⟩ => ⟨q, k, c, by omega, r⟩⟩
theorem ArsAt.next {n : Int} {cs : List Nat} {i j : Nat} {as : List Ar} (h : ArsAt n cs i j as) : ArsAt n cs (i + 1) 0 as :=
  ⟨h.few, h.ar, h.up, fun a ha => .inl (by rcases h.low a ha with q | ⟨q, _⟩ <;> omega)⟩
theorem r_law_writer (ds : List D) (M : Mp) (Q : DK) (E : DX) (hl : ds.length = 5) (h : sp_law_writer ds M Q E) : t_law_writer { nx := fun _ M' => Q .non M', rt := Q } (startD ["_law_bag_here", "_law_name", "_law_places", "_law_signs_here", "_law_thick", "_law_lines", "_law_place", "_law_counts", "_law_sign"] ds) M := by
  obtain ⟨p, b, name, n, cs, thick, rfl, hM, hb, h0, h1, hcs, q⟩ := h
  walk_at "w"
  intro qa hqa
  have hpq : qa ≠ p := fun e => by rw [e, hM] at hqa; cases hqa
  walk_at "w"
  refine ⟨⟨by omega, by omega⟩, ?_⟩
  walk_at "w"
  have hcl := hcs.few
  refine for_inv (fun i env M' => ∃ s6 s8 b', ∃ as : List Ar, env = [some (.ref p), some (.str name), some (.int n), some (.lst (cs.map sgn)), some (.int thick), some (.ref qa), s6, none, s8] ∧ Bag.Ok b' ∧ M' = mupd (mupd M p (.lst b'.l)) qa (.lst (as.map arD)) ∧ ArsAt n cs i 0 as)
    ⟨none, none, b, [], rfl, hb, by rw [mupd_id hM]; rfl, ⟨by simp, by simp, by simp, by simp⟩⟩ (fun i x env M' K hx ⟨s6, s8, b1, as, e1, hb1, e2, e3⟩ hK => ?_) fun env M' ⟨s6, s8, b1, as, e1, hb1, e2, e3⟩ => ?_
  · obtain ⟨hi, rfl⟩ := rng_at hx
    subst e1 e2
    walk_at "w"
    refine for_inv (fun j env M' => ∃ s8 b', ∃ as : List Ar, env = [some (.ref p), some (.str name), some (.int n), some (.lst (cs.map sgn)), some (.int thick), some (.ref qa), some (.int (0 + (i : Int))), none, s8] ∧ Bag.Ok b' ∧ M' = mupd (mupd M p (.lst b'.l)) qa (.lst (as.map arD)) ∧ ArsAt n cs i j as)
      ⟨s8, b1, as, rfl, hb1, rfl, e3⟩ (fun j x env M' K2 hx2 ⟨s8, b2, as2, e1, hb2, e2, e4⟩ hK2 => ?_) fun env M' ⟨s8, b2, as2, e1, hb2, e2, e4⟩ => ?_
    · subst e1 e2
      rw [List.getElem?_map] at hx2
      obtain ⟨c, hc, rfl⟩ := Option.map_eq_some_iff.mp hx2
      have hpm : mupd (mupd M p (.lst b2.l)) qa (.lst (as2.map arD)) p = some (.lst b2.l) := by rw [mupd_ne (Ne.symm hpq), mupd_same]
      walk_at "w"
      rw [resD_new]
      walk_at "w"
      refine brn_by (fun hc1 => ?_) fun hc1 => ?_
      · have h9 : as2.length < 9 := by
          have := of_decide_eq_true hc1
          rw [List.length_map] at this
          omega
        walk_at "w"
        refine ⟨p, b2, 8, rfl, hpm, hb2, by decide, by decide, fun r b3 hb3 r0 r1 => ?_⟩
        rw [mupd_comm hpq, mupd_mupd]
        walk_at "w"
        refine brn_by (fun hc2 => ?_) fun hc2 => ?_
        · walk_at "w"
          refine ⟨?_, ?_⟩
          · walk_at "w"
            rw [mupd_same]
            trivial
          walk_at "w"
          refine ⟨p, b3, n, rfl, by rw [mupd_ne (Ne.symm hpq), mupd_same], hb3, h0, by omega, fun t b4 hb4 t0 t1 => ?_⟩
          rw [mupd_comm hpq, mupd_mupd]
          walk_at "w"
          rw [mupd_same]
          refine ⟨by rw [List.length_map, sizeLine_eq]; omega, ?_⟩
          refine hK2 _ _ ⟨_, b4, as2 ++ [⟨(i : Int), ⟨#[c]⟩, t⟩], rfl, hb4, ?_, e4.more hcs.up (by omega) hc h9 t0 t1⟩
          rw [mupd_mupd, List.map_append, Int.zero_add]; rfl
        · exact hK2 _ _ ⟨_, b3, as2, rfl, hb3, rfl, e4.skip⟩
      · exact hK2 _ _ ⟨_, b2, as2, rfl, hb2, rfl, e4.skip⟩
    · exact hK _ _ ⟨_, s8, b2, as2, e1, hb2, e2, e4.next⟩
  · subst e1 e2
    walk_at "w"
    rw [mupd_same]
    walk_at "w"
    rw [mdel_mupd (by rw [mupd_ne hpq]; exact hqa)]
    have cnt : ∀ y : D, y ∈ [D.int 0, .int 0, .int 0, .int 1, .int 2, .int 3] → ∃ k : Int, y = .int k ∧ 0 ≤ k ∧ k ≤ 3 := fun y hy => by
      simp only [List.mem_cons, List.not_mem_nil, or_false] at hy
      rcases hy with rfl | rfl | rfl | rfl | rfl | rfl <;> exact ⟨_, rfl, by decide, by decide⟩
    refine ⟨p, b1, .lst [.int 0, .int 0, .int 0, .int 1, .int 2, .int 3], [.int 0, .int 0, .int 0, .int 1, .int 2, .int 3], rfl, mupd_same, hb1, by decide, by decide, .inl ⟨rfl, fun e => by cases e⟩, fun y b2 hb2 hy => ?_⟩
    obtain ⟨pat, rfl, p0, p1⟩ := cnt y hy
    rw [mupd_mupd]
    walk_at "w"
    refine ⟨p, b2, .lst [.int 0, .int 0, .int 0, .int 1, .int 2, .int 3], [.int 0, .int 0, .int 0, .int 1, .int 2, .int 3], rfl, mupd_same, hb2, by decide, by decide, .inl ⟨rfl, fun e => by cases e⟩, fun z b3 hb3 hz => ?_⟩
    obtain ⟨cap, rfl, c0, c1⟩ := cnt z hz
    rw [mupd_mupd]
    exact q ⟨name, as, pat, cap⟩ b3 hb3 ⟨rfl, e3.few, e3.ar, e3.up, p0, p1, c0, c1⟩
mutual
theorem same_self : ∀ {n : Nat} {d : D}, D.le n d = true → sameD d d = true
  | _, .non, _ => rfl
  | _, .bl b, _ => by simp [sameD]
  | _, .int i, _ => by simp [sameD]
  | _, .str x, _ => by simp [sameD]
  | n + 1, .tup ds, h => by simpa [sameD] using sames_self (show D.les n ds = true by simpa [D.le] using h)
  | n + 1, .lst ds, h => by simpa [sameD] using sames_self (show D.les n ds = true by simpa [D.le] using h)
  | 0, .tup ds, h => by simp [D.le] at h
  | 0, .lst ds, h => by simp [D.le] at h
  | _, .ref _, h => by simp [D.le] at h
  | _, .ty _, h => by simp [D.le] at h
  | _, .lsk _, h => by simp [D.le] at h
  | _, .dct _ _, h => by simp [D.le] at h
  | _, .obj _ _, h => by simp [D.le] at h
  | _, .dkd _ _ _, h => by simp [D.le] at h
  | _, .exc _ _ _ _, h => by simp [D.le] at h
  | _, .fn _ _ _, h => by simp [D.le] at h
theorem sames_self : ∀ {n : Nat} {ds : List D}, D.les n ds = true → sameDs ds ds = true
  | _, [], _ => rfl
  | n, d :: ds, h => by
    have h' : D.le n d = true ∧ D.les n ds = true := by simpa [D.les] using h
    simp only [sameDs, same_self h'.1, sames_self h'.2, Bool.and_true]
end
end L3
set_option Elab.async false
set_option linter.all false
set_option maxRecDepth 100000
set_option maxHeartbeats 1000000
namespace L3
open PySem PySem.Spec PyProof.Rows L2
local macro_rules | `(tactic| walk_at "w") => `(tactic| conv => whnf)
instance : DecidableRel arLt := fun a b => by unfold arLt; infer_instance
def Ev (t : DE) (env : DEnv) (M : Mp) (d : D) : Prop := ∀ K : DK, K d M → t env M K
theorem Ev.and {ta tb : DE} {env : DEnv} {M : Mp} {b c : Bool} (ha : Ev ta env M (.bl b)) (hb : b = true → Ev tb env M (.bl c)) : Ev (dAndV ta tb) env M (.bl (b && c)) := fun K q => by
  refine ha _ ?_
  walk_at "w"
  refine brn_by (fun h => ?_) fun h => ?_
  · have h' : b = true := h
    rw [h', Bool.true_and] at q
    exact hb h' _ q
  · have h' : b = false := h
    rw [h', Bool.false_and] at q
    show K (.bl b) M
    rw [h']; exact q
theorem Ev.c {d : D} {env : DEnv} {M : Mp} : Ev (dC d) env M d := fun K q => q
end L3
set_option Elab.async false
set_option linter.all false
set_option maxRecDepth 100000
set_option maxHeartbeats 1000000
set_option Elab.async false
set_option linter.all false
set_option maxRecDepth 100000
set_option maxHeartbeats 1000000
set_option Elab.async false
set_option linter.all false
set_option maxRecDepth 100000
set_option maxHeartbeats 1000000
namespace L3
open PySem PySem.Spec PyProof.Rows L2
local macro_rules | `(tactic| walk_at "w") => `(tactic| conv => whnf)
abbrev chs (x : Str) : List Nat := x.cps.toList
end L3
set_option Elab.async false
set_option linter.all false
set_option maxRecDepth 100000
set_option maxHeartbeats 1000000
namespace L3
open PySem PySem.Spec PyProof.Rows L2
local macro_rules | `(tactic| walk_at "w") => `(tactic| conv => whnf)
end L3
set_option Elab.async false
set_option linter.all false
set_option maxRecDepth 100000
set_option maxHeartbeats 1000000
namespace L3
open PySem PySem.Spec PyProof.Rows L2 NS
local macro_rules | `(tactic| walk_at "w") => `(tactic| conv => whnf)
theorem beqS {a b : Str} : (a == b) = decide (a = b) := by
  by_cases c : a = b
  · subst c; simp
  · rw [decide_eq_false c]; exact beq_eq_false_iff_ne.mpr c
end L3
set_option Elab.async false
set_option linter.all false
set_option maxRecDepth 100000
set_option maxHeartbeats 1000000
set_option Elab.async false
set_option linter.all false
set_option maxRecDepth 100000
set_option maxHeartbeats 1000000
namespace L3
open PySem PySem.Spec PyProof.Rows L2
/-- a list (false) or a tuple (true) in the store -/
def SqB (b : Bool) (K : PySem.W.Frag) (H : Hp) (a : Addr) (xs : List V) : Prop := match b with
  | false => SqL K H a xs
  | true => SqT K H a xs
def IsSqB (b : Bool) (h : Heap) (a : Addr) (its : Array Value) : Prop := match b with
  | false => h.IsList a its
  | true => h.IsTuple a its
def IsItB (b : Bool) (h : Heap) (it a : Addr) (i : Nat) : Prop := match b with
  | false => h.IsListIter it a i
  | true => h.IsTupleIter it a i
theorem IsItB.obj {b : Bool} {h : Heap} {it a : Addr} {i : Nat} (st : IsItB b h it a i) : ∃ o, h.get? it = some o ∧ ∀ v, o.data ≠ .cell v := by
  cases b
  · obtain ⟨o, e, _, d⟩ := st; exact ⟨o, e, fun v q => by rw [d] at q; cases q⟩
  · obtain ⟨o, e, _, d⟩ := st; exact ⟨o, e, fun v q => by rw [d] at q; cases q⟩
theorem IsSqB.lt {b : Bool} {h : Heap} {a : Addr} {its : Array Value} (st : IsSqB b h a its) : a < h.objs.size := by
  cases b
  · obtain ⟨o, e, _⟩ := st; exact Heap.lt_size e
  · obtain ⟨o, e, _⟩ := st; exact Heap.lt_size e
theorem SqB.mono {b : Bool} {K : PySem.W.Frag} {F F' : Hp} {p : Addr} {vs : List V} (h : SqB b K F p vs) (s : Same F F') : SqB b K F' p vs := by
  cases b
  · exact s.seq h
  · exact Same.seqT s h
end L3
set_option Elab.async false
set_option linter.all false
set_option maxRecDepth 100000
set_option maxHeartbeats 1000000
set_option Elab.async false
set_option linter.all false
set_option maxRecDepth 100000
set_option maxHeartbeats 1000000
namespace L3
open PySem PySem.Spec PyProof.Rows L2 NS
local macro_rules | `(tactic| walk_at "w") => `(tactic| conv => whnf)
inductive Th where
  | wr (w : Wr) | nm (x : Str) | num (i : Int)
abbrev Dd := Str × List Th
def tb_FORMS : List (Str × D) := rowsOf ["come", "leave", "change", "sign", "said", "denied", "unsay", "watch", "unwatch"] ((["w", "n", "w", "s", "bn", "bn", "b", "b", "b"] : List Str).map D.str)
def formOf (w : Str) : Option Str := match lookS tb_FORMS w with
  | some (.str f) => some f
  | _ => none
theorem forms_in {w : Str} : ∀ d, lookS tb_FORMS w = some d → ∃ f : Str, d = .str f ∧ f ∈ (["w", "n", "s", "bn", "b"] : List Str) ∧ w ∈ (["come", "leave", "change", "sign", "said", "denied", "unsay", "watch", "unwatch"] : List Str) := by
  have key : ∀ (ks zs : List Str) d, lookS (rowsOf ks (zs.map D.str)) w = some d → ∃ f, d = .str f ∧ f ∈ zs ∧ w ∈ ks := fun ks => by
    induction ks with
    | nil => intro zs d h; cases h
    | cons k ks ih =>
      intro zs d h
      cases zs with
      | nil => cases h
      | cons z zs =>
        have h : (if k = w then some (D.str z) else lookS (rowsOf ks (zs.map D.str)) w) = some d := h
        by_cases c : k = w
        · rw [if_pos c] at h; cases h
          exact ⟨z, rfl, List.mem_cons_self, by rw [c]; exact List.mem_cons_self⟩
        · rw [if_neg c] at h
          obtain ⟨f, e, h1, h2⟩ := ih zs d h
          exact ⟨f, e, List.mem_cons_of_mem _ h1, List.mem_cons_of_mem _ h2⟩
  intro d h
  obtain ⟨f, e, h1, h2⟩ := key _ _ d h
  refine ⟨f, e, ?_, h2⟩
  simp only [List.mem_cons, List.not_mem_nil, or_false] at h1
  rcases h1 with rfl | rfl | rfl | rfl | rfl | rfl | rfl | rfl | rfl <;> simp
theorem word_ch {w f : Str} (h : formOf w = some f) : (∀ c ∈ chs w, 97 ≤ c ∧ c ≤ 122) ∧ w.length ≤ 7 ∧ f.length ≤ 2 ∧ SOk w ∧ SOk f ∧ f ∈ (["w", "n", "s", "bn", "b"] : List Str) ∧ lookS tb_FORMS w = some (.str f) := by
  have hl : lookS tb_FORMS w = some (.str f) := by
    unfold formOf at h
    split at h
    · rename_i g e
      cases h; exact e
    · cases h
  obtain ⟨g, e, hg, hw⟩ := forms_in _ hl
  cases e
  have key : ∀ w ∈ (["come", "leave", "change", "sign", "said", "denied", "unsay", "watch", "unwatch"] : List Str), (∀ c ∈ chs w, 97 ≤ c ∧ c ≤ 122) ∧ w.length ≤ 7 ∧ SOk w := by decide +kernel
  have key2 : ∀ f ∈ (["w", "n", "s", "bn", "b"] : List Str), f.length ≤ 2 ∧ SOk f := by decide +kernel
  exact ⟨(key w hw).1, (key w hw).2.1, (key2 f hg).1, (key w hw).2.2, (key2 f hg).2, hg, hl⟩
end L3
set_option Elab.async false
set_option linter.all false
set_option maxRecDepth 100000
set_option maxHeartbeats 1000000
namespace L3
open PySem PySem.Spec PyProof.Rows L2
section
variable {X : Cx}
def dPar3 (i j l : Nat) (ta : DA) : DS := fun D env M => ta env M fun ds M1 => match ds with
  | [d, g, h] => D.nx (((env.set i (some d)).set j (some g)).set l (some h)) M1
  | _ => False
theorem pds_par3 {i j l : Nat} {x y z : Str} {a b c : Expr} {ta : DA} {px py pz pt pos : Pos} {kt k2 pt2} (hN : X.N.Nodup) (ha : PDA X [a, b, c] ta) (hc : X.calm = true := by rfl) (hi : X.N[i]? = some x := by rfl) (hj : X.N[j]? = some y := by rfl) (hl : X.N[l]? = some z := by rfl) (hij : i ≠ j := by decide) (hil : i ≠ l := by decide) (hjl : j ≠ l := by decide)
    (hx : X.env.scope.names.lookup x = some .local := by rfl) (hy : X.env.scope.names.lookup y = some .local := by rfl) (hz : X.env.scope.names.lookup z = some .local := by rfl)
    (hw : swappedStores [.Tuple [.Name x px, .Name y py, .Name z pz] kt pt] (.Tuple [a, b, c] k2 pt2) X.env = pure (some [x, y, z]) := by rfl)
    (hs : swapsWithSole [.Tuple [.Name x px, .Name y py, .Name z pz] kt pt] (.Tuple [a, b, c] k2 pt2) pos.line X.env = pure false := by rfl) :
    PDS X (.Assign [.Tuple [.Name x px, .Name y py, .Name z pz] kt pt] (.Tuple [a, b, c] k2 pt2) pos) (dPar3 i j l ta) :=
  ps_imp (ps_par3 hc hN hi hj hl hij hil hjl hx hy hz ha hw hs) fun D' σ H ⟨R, F, env, M, D, a, e, h, k⟩ => ⟨R, F, env, M, _, a, e, h, fun F1 H1 M1 ds vs s1 a1 r1 l1 q1 => by
    have hh : ∃ d g h, ds = [d, g, h] ∧ D.nx (((env.set i (some d)).set j (some g)).set l (some h)) M1 := by
      cases ds with
      | nil => exact q1.elim
      | cons d ds => cases ds with
        | nil => exact q1.elim
        | cons g ds => cases ds with
          | nil => exact q1.elim
          | cons h ds => cases ds with
            | nil => exact ⟨d, g, h, rfl, q1⟩
            | cons _ _ => exact q1.elim
    obtain ⟨d, g, h, rfl, q1⟩ := hh
    obtain ⟨x, r, e1, h1, y, r', e2, h2, z, r'', e3, h3, e4⟩ := r1
    subst e1 e2 e3
    have e4 : r'' = [] := e4
    subst e4
    exact ⟨x, y, z, rfl, k.nx F1 H1 M1 _ _ s1 a1 ((((e.mono s1).set i h1).set j h2).set l h3) q1⟩⟩
end
end L3
set_option Elab.async false
set_option linter.all false
set_option maxRecDepth 100000
set_option maxHeartbeats 1000000
namespace L3
open PySem PySem.Spec PyProof.Rows L2
section
variable {X : Cx}
def rMulL : R2D := fun d e M Q => match d, e with
  | .lst xs, .int k => (0 ≤ k ∧ k ≤ 1000 ∧ xs.length ≤ 1000) ∧ Q (.lst (List.replicate k.toNat xs).flatten) M
  | _, _ => False
theorem opd_mulL : OpD X (binaryOp .Mult) rMulL := ⟨_, op_rep, fun R F M H d e x y Qd Q a r1 r2 q kd => by
  unfold rMulL at q
  split at q
  · rename_i xs k
    obtain ⟨⟨k0, k1, hz⟩, q⟩ := q
    obtain ⟨p, vx, rfl, hx, rx⟩ := r1
    obtain rfl : y = V.int k := r2
    refine ⟨p, k, vx, rfl, rfl, a.fz _ _ hx, by omega, by omega, ?_, fun P hP => lst_new a (reps_rep rx _) kd q hP⟩
    rw [← rx.length, sizeLine_eq]
    have : k.toNat ≤ 1000 := by omega
    have := Nat.mul_le_mul hz this
    omega
  · exact q.elim⟩
end
end L3
set_option Elab.async false
set_option linter.all false
set_option maxRecDepth 100000
set_option maxHeartbeats 1000000
namespace L3
open PySem PySem.Spec PyProof.Rows L2 NS
local macro_rules | `(tactic| walk_at "w") => `(tactic| conv => whnf)
abbrev excs : List Str := ["BadDeed"]
theorem field_deed : fieldOf ["word"] [.str "BadDeed"] = some .non := by
  unfold fieldOf
  show (if isS ["Taken", "NoName"] "BadDeed" = true then _ else _) = _
  rw [if_neg (by decide +kernel), if_neg (by decide +kernel), if_neg (by decide +kernel), if_neg (by decide +kernel), if_pos (by decide +kernel)]
def mK : List L2.Key := (["row", "talk", "fresh", "eyes", "deeds"] : List Str).map Sum.inr
def mV : List D := [.lst [], .dct [] [], .int 0, .lst [], .lst []]
theorem mK_eq : (addK (addK (addK (addK (addK [] (Sum.inr (Str.ofString "row"))) (Sum.inr (Str.ofString "talk"))) (Sum.inr (Str.ofString "fresh"))) (Sum.inr (Str.ofString "eyes"))) (Sum.inr (Str.ofString "deeds"))) = mK := by kernel_rfl
theorem mV_eq : (setK (addK (addK (addK (addK [] (Sum.inr (Str.ofString "row"))) (Sum.inr (Str.ofString "talk"))) (Sum.inr (Str.ofString "fresh"))) (Sum.inr (Str.ofString "eyes"))) (setK (addK (addK (addK [] (Sum.inr (Str.ofString "row"))) (Sum.inr (Str.ofString "talk"))) (Sum.inr (Str.ofString "fresh"))) (setK (addK (addK [] (Sum.inr (Str.ofString "row"))) (Sum.inr (Str.ofString "talk"))) (setK (addK [] (Sum.inr (Str.ofString "row"))) (setK [] [] (Sum.inr (Str.ofString "row")) (D.lst [])) (Sum.inr (Str.ofString "talk")) (D.dct [] [])) (Sum.inr (Str.ofString "fresh")) (D.int 0)) (Sum.inr (Str.ofString "eyes")) (D.lst [])) (Sum.inr (Str.ofString "deeds")) (D.lst [])) = mV := by kernel_rfl
def sp_law_empty : SpD := fun ds M Q _ => ds = [] ∧ Q (.dct mK mV) M
def t_law_empty : DS := (dRet (dFrz (dDct [((dC (.str "row")), (dLst dNil)), ((dC (.str "talk")), (dFrz dDct0)), ((dC (.str "fresh")), (dC (.int 0))), ((dC (.str "eyes")), (dLst dNil)), ((dC (.str "deeds")), (dLst dNil))])))
theorem r_law_empty (ds : List D) (M : Mp) (Q : DK) (E : DX) (hl : ds.length = 0) (h : sp_law_empty ds M Q E) : t_law_empty { nx := fun _ M' => Q .non M', rt := Q } (startD [] ds) M := by
  obtain ⟨rfl, q⟩ := h
  walk_at "w"
  intro pt hpt
  walk_at "w"
  rw [mupd_same]
  walk_at "w"
  rw [mdel_mupd hpt]
  walk_at "w"
  intro pm hpm
  rw [mV_eq, mK_eq]
  walk_at "w"
  rw [mupd_same]
  walk_at "w"
  rw [mdel_mupd hpm]
  exact q
def sp_law_turns : SpD := fun ds M Q _ => ds = [.dct mK mV] ∧ Q (.lst []) M
def t_law_turns : DS := (dRet (dLc (iLst (dBin rIxD (dVar 0) (dC (.str "row")))) (.name 1) (dNot (dTru (dIsi .str (dVar 1)))) (dVar 1) [1]))
theorem r_law_turns (ds : List D) (M : Mp) (Q : DK) (E : DX) (hl : ds.length = 1) (h : sp_law_turns ds M Q E) : t_law_turns { nx := fun _ M' => Q .non M', rt := Q } (startD ["_law_m", "_law_step"] ds) M := by
  obtain ⟨rfl, q⟩ := h
  walk_at "w"
  refine lc_map (fun x => x) (fun x hx => nomatch hx) ?_
  exact q
def sp_law_crew : SpD := fun ds M Q _ => ds = [.dct mK mV] ∧ Q (.lst []) M
def t_law_crew : DS := (dSeq (dSet 1 (dCall sp_law_turns (dCons (dVar 0) dNil)))
    (dRet (dIf (dTest (dBin (rEqDD not) (dVar 1) (dLst dNil))) (dUn rListD (dBin rIxD (dVar 1) (dUn rNegI (dC (.int 1))))) (dLst dNil))))
theorem r_law_crew (ds : List D) (M : Mp) (Q : DK) (E : DX) (hl : ds.length = 1) (h : sp_law_crew ds M Q E) : t_law_crew { nx := fun _ M' => Q .non M', rt := Q } (startD ["_law_m", "_law_turns_here"] ds) M := by
  obtain ⟨rfl, q⟩ := h
  walk_at "w"
  refine ⟨rfl, ?_⟩
  walk_at "w"
  refine ⟨⟨rfl, rfl⟩, ?_⟩
  walk_at "w"
  exact q
def sp_law_many : SpD := fun ds M Q _ => ds = [.dct mK mV] ∧ Q (.int 0) M
def t_law_many : DS := (dRet (dUn rLenD (dLc (iLst (dBin rIxD (dVar 0) (dC (.str "row")))) (.name 1) (dTru (dIsi .str (dVar 1))) (dVar 1) [1])))
theorem r_law_many (ds : List D) (M : Mp) (Q : DK) (E : DX) (hl : ds.length = 1) (h : sp_law_many ds M Q E) : t_law_many { nx := fun _ M' => Q .non M', rt := Q } (startD ["_law_m", "_law_step"] ds) M := by
  obtain ⟨rfl, q⟩ := h
  walk_at "w"
  refine lc_map (fun x => x) (fun x hx => nomatch hx) ?_
  exact q
def sp_law_deed_drawn : SpD := fun ds M Q _ => ∃ p b, ∃ pool : List Str, ∃ cs : List Nat, ds = [.ref p, .dct mK mV, .lst (pool.map D.str), .lst (cs.map sgn)] ∧ M p = some (.lst (Bag.l b)) ∧ b.Ok ∧ 0 < pool.length ∧ pool.length ≤ 26 ∧ (∀ x ∈ pool, isName x = true) ∧ SgOk cs ∧
  ∀ b' (x : Str) (w : Wr), Bag.Ok b' → Q (.tup [.str x, wrD w]) (mupd M p (.lst b'.l))
def t_law_deed_drawn_1 : DS := dNever
def t_law_deed_drawn_2 : DS := (dSeq dNever
    t_law_deed_drawn_1)
def t_law_deed_drawn_3 : DS := (dSeq dNever
    (dSeq dNever
    t_law_deed_drawn_2))
def t_law_deed_drawn_4 : DS := (dSeq dNever
    t_law_deed_drawn_3)
def t_law_deed_drawn_5 : DS := (dSeq dNever
    t_law_deed_drawn_4)
def t_law_deed_drawn : DS := (dSeq (dPar3 5 6 7 (dCons (dCall sp_law_crew (dCons (dVar 1) dNil)) (dCons (dCall sp_law_many (dCons (dVar 1) dNil)) (dCons (dCall sp_law_pull (dCons (dVar 0) (dCons (dC (.int 16)) dNil))) dNil))))
    (dSeq (dIfS (dOr (dTest (dBin (rEqDD id) (dVar 5) (dLst dNil))) (dOr (dTest (dBin rLtI (dVar 7) (dC (.int 2)))) (dTest (dBin (rEqDD id) (dVar 7) (dC (.int 3)))))) (dSeq (dSet 8 (dCall sp_law_writer (dCons (dVar 0) (dCons (dCall sp_law_of (dCons (dVar 0) (dCons (dVar 2) dNil))) (dCons (dBin rAddD (dC (.int 1)) (dCall sp_law_pull (dCons (dVar 0) (dCons (dC (.int 3)) dNil)))) (dCons (dVar 3) (dCons (dCall sp_law_of (dCons (dVar 0) (dCons (dLst (dCons (dC (.int 5)) (dCons (dC (.int 8)) (dCons (dC (.int 8)) dNil)))) dNil))) dNil)))))))
    (dRet (dTup (dCons (dIf (dTest (dBin (rEqDD id) (dVar 7) (dC (.int 3)))) (dC (.str "change")) (dC (.str "come"))) (dCons (dVar 8) dNil))))) dNext)
    t_law_deed_drawn_5))
theorem r_law_deed_drawn (ds : List D) (M : Mp) (Q : DK) (E : DX) (hl : ds.length = 4) (h : sp_law_deed_drawn ds M Q E) : t_law_deed_drawn { nx := fun _ M' => Q .non M', rt := Q } (startD ["_law_bag_here", "_law_m", "_law_pool", "_law_letters_here", "_law_at", "_law_crew_here", "_law_many_here", "_law_pick", "_law_writer_here", "_law_some", "_law_name"] ds) M := by
  obtain ⟨p, b, pool, cs, rfl, hM, hb, p0, p1, hn, hcs, q⟩ := h
  walk_at "w"
  refine ⟨rfl, ?_⟩
  walk_at "w"
  refine ⟨rfl, ?_⟩
  walk_at "w"
  refine ⟨p, b, 16, rfl, hM, hb, by decide, by decide, fun r b1 hb1 r0 r1 => ?_⟩
  walk_at "w"
  refine ⟨⟨rfl, rfl⟩, ?_⟩
  walk_at "w"
  refine ⟨p, b1, _, pool.map D.str, rfl, mupd_same, hb1, by rw [List.length_map]; omega, by rw [List.length_map]; omega, .inl ⟨rfl, fun e => by cases e⟩, fun y b2 hb2 hy => ?_⟩
  obtain ⟨a, ha, rfl⟩ := List.mem_map.mp hy
  rw [mupd_mupd]
  walk_at "w"
  refine ⟨p, b2, 3, rfl, mupd_same, hb2, by decide, by decide, fun r2 b3 hb3 r20 r21 => ?_⟩
  rw [mupd_mupd]
  walk_at "w"
  refine ⟨p, b3, _, [.int 5, .int 8, .int 8], rfl, mupd_same, hb3, by simp, by simp, .inl ⟨rfl, fun e => by cases e⟩, fun y b4 hb4 hy => ?_⟩
  obtain ⟨th, rfl⟩ : ∃ th, y = .int th := by
    simp only [List.mem_cons, List.not_mem_nil, or_false] at hy
    rcases hy with rfl | rfl | rfl <;> exact ⟨_, rfl⟩
  rw [mupd_mupd]
  walk_at "w"
  refine ⟨p, b4, a, 1 + r2, cs, th, rfl, mupd_same, hb4, by omega, by omega, hcs, fun w b5 hb5 dr => ?_⟩
  rw [mupd_mupd]
  walk_at "w"
  refine ⟨⟨rfl, rfl⟩, ?_⟩
  refine brn_by (fun _ => ?_) fun _ => ?_
  · exact q b5 _ w hb5
  · exact q b5 _ w hb5
def words9 : List Str := ["come", "leave", "change", "sign", "said", "denied", "unsay", "watch", "unwatch"]
def two (w : Str) : Bool := decide (w = "said") || decide (w = "denied")
def goodB (xs : List D) : Bool := match xs with
  | .str w :: rest => decide (w ∈ words9) && decide (rest.length = 1 + (if two w = true then 1 else 0))
  | _ => false
def Sh (xs : List D) : Prop := xs = [] ∨ ∃ w rest, xs = .str w :: rest ∧ rest.length ≤ 2
theorem form_two {w f : Str} (h : formOf w = some f) : w ∈ words9 ∧ f.length = 1 + (if two w = true then 1 else 0) := by
  obtain ⟨_, _, _, _, _, _, hl⟩ := word_ch h
  obtain ⟨g, e, _, hw⟩ := forms_in _ hl
  cases e
  refine ⟨hw, ?_⟩
  simp only [List.mem_cons, List.not_mem_nil, or_false] at hw
  rcases hw with rfl | rfl | rfl | rfl | rfl | rfl | rfl | rfl | rfl
  all_goals
    cases hl
    decide
theorem form_none {w : Str} (h : lookS tb_FORMS w = none) : w ∉ words9 := fun hw => by
  unfold words9 at hw
  simp only [List.mem_cons, List.not_mem_nil, or_false] at hw
  rcases hw with rfl | rfl | rfl | rfl | rfl | rfl | rfl | rfl | rfl
  all_goals cases h
def sp_need_deed : SpD := fun ds M Q E => ∃ xs : List D, ds = [.tup xs] ∧ Sh xs ∧ (goodB xs = true → Q .non M) ∧ (goodB xs = false → E "BadDeed" ["word"] [.str "BadDeed"] M)
def t_need_deed : DSX := (xIf (dOr (dTest (dBin (rEqDD id) (dUn rLenD (dVar 0)) (dC (.int 0)))) (dOr (dTest (dInT tb_FORMS not (dBin rIxD (dVar 0) (dC (.int 0))))) (dTest (dBin (rEqDD not) (dUn rLenD (dVar 0)) (dBin rAddD (dC (.int 1)) (dUn rLenD (dIxT tb_FORMS (dBin rIxD (dVar 0) (dC (.int 0)))))))))) (xRaise "BadDeed" [] dNil) (xS dNext))
theorem r_need_deed (ds : List D) (M : Mp) (Q : DK) (E : DX) (hl : ds.length = 1) (h : sp_need_deed ds M Q E) : t_need_deed { nx := fun _ M' => Q .non M', rt := Q } E (startD ["deed"] ds) M := by
  obtain ⟨xs, rfl, sh, q1, q2⟩ := h
  rcases sh with rfl | ⟨w, rest, rfl, hr⟩
  · walk_at "w"
    refine ⟨⟨rfl, rfl⟩, ?_⟩
    walk_at "w"
    exact q2 rfl
  · walk_at "w"
    refine ⟨⟨rfl, rfl⟩, ?_⟩
    rw [show id (eqD (resD M (.int ((D.str w :: rest).length : Nat))) (resD M (.int 0))) = false by
      show (((rest.length + 1 : Nat) : Int) == 0) = false
      exact beq_false_of_ne (by omega)]
    walk_at "w"
    rw [atI_0]
    walk_at "w"
    cases hf : lookS tb_FORMS w with
    | none =>
      walk_at "w"
      refine q2 ?_
      show (decide (w ∈ words9) && _) = false
      rw [decide_eq_false (form_none hf), Bool.false_and]
    | some d =>
      obtain ⟨f, rfl, _, _⟩ := forms_in _ hf
      have ef : formOf w = some f := by unfold formOf; rw [hf]
      obtain ⟨hw, fl⟩ := form_two ef
      walk_at "w"
      rw [atI_0]
      walk_at "w"
      rw [hf]
      walk_at "w"
      refine ⟨⟨rfl, rfl⟩, ?_⟩
      have eg : goodB (.str w :: rest) = decide (rest.length = f.length) := by
        show (decide (w ∈ words9) && decide (rest.length = 1 + (if two w = true then 1 else 0))) = _
        rw [decide_eq_true hw, Bool.true_and, fl]
      rw [show not (eqD (resD M (.int ((D.str w :: rest).length : Nat))) (resD M (.int (1 + (f.length : Nat))))) = !decide (rest.length = f.length) by
        show (!(((rest.length + 1 : Nat) : Int) == 1 + (f.length : Int))) = _
        congr 1
        rw [Bool.eq_iff_iff, beq_iff_eq, decide_eq_true_eq]
        omega]
      rw [← eg]
      cases c : goodB (.str w :: rest) with
      | true => walk_at "w"; exact q1 c
      | false => walk_at "w"; exact q2 c
end L3
set_option Elab.async false
set_option linter.all false
set_option maxRecDepth 100000
set_option maxHeartbeats 1000000
namespace L3
open PySem PySem.Spec PyProof.Rows L2 NS
local macro_rules | `(tactic| walk_at "w") => `(tactic| conv => whnf)
def t_law_1 (tb : Addr) : DS := (dSeq (dSet 9 (dAndV (dBin rGtI (dUn rLenD (dVar 8)) (dC (.int 0))) (dAndV (dBin (rInDD id) (dBin rIxD (dVar 8) (dC (.int 0))) (dVar 2)) (dBin (rEqDD id) (dBin rSubI (dUn rLenD (dVar 8)) (dC (.int 1))) (dBin rAddD (dC (.int 1)) (dUn rIntB (dBin (rInDD id) (dBin rIxD (dVar 8) (dC (.int 0))) (dTup (dCons (dC (.str "said")) (dCons (dC (.str "denied")) dNil))))))))))
    (dSeq (dSet 10 (dIf (dTru (dVar 9)) (dTup (dCons (dC .non) (dCons (dC (.str "")) (dCons (dC .non) dNil)))) (dTup (dCons (dC .non) (dCons (dC (.str "BadDeed")) (dCons (dC .non) dNil))))))
    (dIfS (dNot (dTru (dCall (sp_law_like 8) (dCons (dTry tb lawQ excs (xCall sp_need_deed (dCons (dVar 8) dNil))) (dCons (dVar 10) dNil))))) (dRet (dC (.bl false))) dNext)))
def t_law_2 (tb : Addr) : DS := (dSeq (dSet 4 (dLc (iLst (dLst (dCons (dTup dNil) (dCons (dTup (dCons (dC (.str "")) dNil)) (dCons (dTup (dCons (dC (.str "said")) (dCons (dC (.int 0)) dNil))) (dCons (dTup (dCons (dC (.str "come")) dNil)) (dCons (dTup (dCons (dC (.str "undo")) dNil)) dNil))))))) (.name 8) dYes (dRef tb lawQ excs (xCall sp_need_deed (dCons (dVar 8) dNil))) [8]))
    (dRet (dCall (sp_law_like 8) (dCons (dVar 4) (dCons (dBin rMulL (dLst (dCons (dTup (dCons (dC (.str "BadDeed")) (dCons (dC .non) dNil))) dNil)) (dC (.int 5))) dNil)))))
def t_law (tb : Addr) : DS := (dSeq (dSet 1 (dCall sp_law_bag (dCons (dVar 0) dNil)))
    (dSeq (dPar3 5 6 7 (dCons (dCall sp_law_signs (dCons (dVar 1) (dCons (dC (.int 2)) dNil))) (dCons (dCall sp_law_names (dCons (dVar 1) (dCons (dC (.int 3)) dNil))) (dCons (dCall sp_law_empty dNil) dNil))))
    (dSeq (dSet 2 (dLst (dCons (dC (.str "come")) (dCons (dC (.str "leave")) (dCons (dC (.str "change")) (dCons (dC (.str "sign")) (dCons (dC (.str "said")) (dCons (dC (.str "denied")) (dCons (dC (.str "unsay")) (dCons (dC (.str "watch")) (dCons (dC (.str "unwatch")) dNil)))))))))))
    (dSeq (dFor (iRange1 (dCons (dC (.int 8)) dNil)) (.name 3) (dSeq (dSet 8 (dCall sp_law_deed_drawn (dCons (dVar 1) (dCons (dVar 7) (dCons (dVar 6) (dCons (dVar 5) dNil))))))
    (dSeq (dSet 8 (dIf (dTest (dBin (rEqDD id) (dCall sp_law_pull (dCons (dVar 1) (dCons (dC (.int 2)) dNil))) (dC (.int 0)))) (dBin rAddD (dTup (dCons (dCall sp_law_of (dCons (dVar 1) (dCons (dVar 2) dNil))) dNil)) (dSl (dVar 8) (dPart (dC (.int 1))) dNoPart)) (dVar 8)))
    (dSeq (dIfS (dTest (dBin (rEqDD id) (dCall sp_law_pull (dCons (dVar 1) (dCons (dC (.int 2)) dNil))) (dC (.int 0)))) (dSet 8 (dCall sp_law_of (dCons (dVar 1) (dCons (dLst (dCons (dSl (dVar 8) dNoPart (dPart (dUn rNegI (dC (.int 1))))) (dCons (dBin rAddD (dVar 8) (dTup (dCons (dCall sp_law_pull (dCons (dVar 1) (dCons (dC (.int 9)) dNil))) dNil))) (dCons (dBin rAddD (dTup (dCons (dC (.str "Come")) dNil)) (dSl (dVar 8) (dPart (dC (.int 1))) dNoPart)) (dCons (dTup dNil) dNil))))) dNil)))) dNext)
    (t_law_1 tb)))))
    (t_law_2 tb)))))
section
variable {p tb : Addr}
theorem words_any (w : Str) : ((words9.map D.str).any fun z => eqD z (.str w)) = decide (w ∈ words9) := by
  have key : ∀ ks : List Str, ((ks.map D.str).any fun z => eqD z (.str w)) = decide (w ∈ ks) := fun ks => by
    induction ks with
    | nil => rfl
    | cons k ks ih =>
      rw [List.map_cons, List.any_cons, ih]
      show ((k == w) || _) = _
      rw [beqS, Bool.eq_iff_iff, Bool.or_eq_true, decide_eq_true_eq, decide_eq_true_eq, decide_eq_true_eq, List.mem_cons]
      exact ⟨fun h => h.elim (fun e => .inl e.symm) .inr, fun h => h.elim (fun e => .inl e.symm) .inr⟩
  exact key _
def dueD (b : Bool) : D := if b = true then .tup [.non, .str "", .non] else .tup [.non, .str "BadDeed", .non]
theorem r_law_1 {M : Mp} (hT : M tb = some (.tbl lawQ)) {xs : List D} (sh : Sh xs) (e0 e1 e3 e4 e5 e6 e7 e9 e10 : Option D) (E : DEnds)
    (hK : ∀ e9 e10, E.nx [e0, e1, some (.lst (words9.map D.str)), e3, e4, e5, e6, e7, some (.tup xs), e9, e10] M) :
    t_law_1 tb E [e0, e1, some (.lst (words9.map D.str)), e3, e4, e5, e6, e7, some (.tup xs), e9, e10] M := by
  have fin : ∀ e9, dIfS (dNot (dTru (dCall (sp_law_like 8) (dCons (dTry tb lawQ excs (xCall sp_need_deed (dCons (dVar 8) dNil))) (dCons (dVar 10) dNil))))) (dRet (dC (.bl false))) dNext E [e0, e1, some (.lst (words9.map D.str)), e3, e4, e5, e6, e7, some (.tup xs), e9, some (dueD (goodB xs))] M := fun e9 => by
    walk_at "w"
    refine ⟨hT, ?_⟩
    walk_at "w"
    refine ⟨xs, rfl, sh, fun hg => ?_, fun hg => ?_⟩
    · rw [hg]
      walk_at "w"
      refine ⟨_, _, rfl, rfl, rfl, by decide, ?_⟩
      rw [show sameD (.tup [.non, .str "", .non]) (dueD true) = true from same_self (n := 7) (d := .tup [.non, .str "", .non]) rfl]
      walk_at "w"
      exact hK _ _
    · refine ⟨List.mem_cons_self, _, _, rfl, field_deed, ?_⟩
      rw [hg]
      walk_at "w"
      refine ⟨_, _, rfl, rfl, rfl, by decide, ?_⟩
      rw [show sameD (.tup [.non, .str "BadDeed", .non]) (dueD false) = true from same_self (n := 7) (d := .tup [.non, .str "BadDeed", .non]) rfl]
      walk_at "w"
      exact hK _ _
  rcases sh with rfl | ⟨w, rest, rfl, hr⟩
  · walk_at "w"
    exact fin _
  · have e0' : decide ((0 : Int) < (((D.str w :: rest).length : Nat) : Int)) = true := decide_eq_true (by rw [List.length_cons]; omega)
    walk_at "w"
    rw [e0']
    walk_at "w"
    rw [atI_0]
    walk_at "w"
    refine ⟨⟨rfl, les_flat fun d hd => by obtain ⟨z, _, rfl⟩ := List.mem_map.mp hd; rfl⟩, ?_⟩
    rw [show id ((words9.map D.str).any fun z => eqD z (.str w)) = decide (w ∈ words9) from words_any w]
    by_cases hw : w ∈ words9
    · rw [decide_eq_true hw]
      walk_at "w"
      rw [atI_0]
      walk_at "w"
      refine ⟨⟨rfl, rfl⟩, ?_⟩
      rw [show id (([D.str "said", D.str "denied"]).any fun z => eqD z (.str w)) = two w by
        show ((("said" : Str) == w) || ((("denied" : Str) == w) || false)) = _
        rw [beqS, beqS, Bool.or_false]
        unfold two
        rw [show decide (("said" : Str) = w) = decide (w = "said") from decide_eq_decide.mpr ⟨Eq.symm, Eq.symm⟩, show decide (("denied" : Str) = w) = decide (w = "denied") from decide_eq_decide.mpr ⟨Eq.symm, Eq.symm⟩]]
      walk_at "w"
      refine ⟨⟨rfl, rfl⟩, ?_⟩
      have eg : goodB (.str w :: rest) = decide (rest.length = 1 + (if two w = true then 1 else 0)) := by
        show (decide (w ∈ words9) && decide (rest.length = 1 + (if two w = true then 1 else 0))) = _
        rw [decide_eq_true hw, Bool.true_and]
      rw [show id (eqD (resD M (.int (((D.str w :: rest).length : Nat) - 1))) (resD M (.int (1 + (if two w = true then 1 else 0))))) = goodB (.str w :: rest) by
        rw [eg]
        show (((((rest.length + 1 : Nat) : Int) - 1)) == 1 + (if two w = true then (1 : Int) else 0)) = _
        rw [Bool.eq_iff_iff, beq_iff_eq, decide_eq_true_eq]
        split <;> omega]
      cases c : goodB (.str w :: rest) with
      | true =>
        have fin := fin (some (.bl true))
        rw [c] at fin
        walk_at "w"
        exact fin
      | false =>
        have fin := fin (some (.bl false))
        rw [c] at fin
        walk_at "w"
        exact fin
    · rw [decide_eq_false hw]
      have eg : goodB (.str w :: rest) = false := by
        show (decide (w ∈ words9) && _) = false
        rw [decide_eq_false hw, Bool.false_and]
      have fin := fin (some (.bl false))
      rw [eg] at fin
      walk_at "w"
      exact fin
def odd5 : List D := [.tup [], .tup [.str ""], .tup [.str "said", .int 0], .tup [.str "come"], .tup [.str "undo"]]
theorem odd5_bad : ∀ d ∈ odd5, ∃ xs, d = .tup xs ∧ Sh xs ∧ goodB xs = false := fun d hd => by
  unfold odd5 at hd
  simp only [List.mem_cons, List.not_mem_nil, or_false] at hd
  rcases hd with rfl | rfl | rfl | rfl | rfl
  · exact ⟨_, rfl, .inl rfl, rfl⟩
  · exact ⟨_, rfl, .inr ⟨_, _, rfl, by decide⟩, by decide +kernel⟩
  · exact ⟨_, rfl, .inr ⟨_, _, rfl, by decide⟩, by decide +kernel⟩
  · exact ⟨_, rfl, .inr ⟨_, _, rfl, by decide⟩, by decide +kernel⟩
  · exact ⟨_, rfl, .inr ⟨_, _, rfl, by decide⟩, by decide +kernel⟩
theorem r_law_2 {M : Mp} (hT : M tb = some (.tbl lawQ)) {Q : DK} (q : ∀ M', Q (.bl true) M') {nx : DEnv → Mp → Prop} (e0 e1 e2 e3 e4 e5 e6 e7 e8 e9 e10 : Option D) :
    t_law_2 tb { nx := nx, rt := Q } [e0, e1, e2, e3, e4, e5, e6, e7, e8, e9, e10] M := by
  walk_at "w"
  refine lc_map (fun _ => .tup [.str "BadDeed", .non]) (fun d hd K1 K2 k1 => ?_) ?_
  · obtain ⟨xs, rfl, sh, hg⟩ := odd5_bad d hd
    walk_at "w"
    refine ⟨hT, ?_⟩
    walk_at "w"
    refine ⟨xs, rfl, sh, (fun h => by rw [hg] at h; cases h), fun _ => ⟨List.mem_cons_self, _, _, rfl, field_deed, ?_⟩⟩
    exact k1
  · walk_at "w"
    refine ⟨⟨by decide, by decide, by show 1 ≤ 1000; decide⟩, ?_⟩
    walk_at "w"
    refine ⟨_, _, rfl, rfl, rfl, by decide, ?_⟩
    have e : sameD (.lst (odd5.map fun _ => D.tup [.str "BadDeed", .non])) (.lst (List.replicate (Int.toNat 5) [D.tup [.str "BadDeed", .non]]).flatten) = true := same_self (n := 7) (d := .lst (odd5.map fun _ => D.tup [.str "BadDeed", .non])) rfl
    show Q (.bl (sameD (.lst (odd5.map fun _ => D.tup [.str "BadDeed", .non])) (.lst (List.replicate (Int.toNat 5) [D.tup [.str "BadDeed", .non]]).flatten))) M
    rw [e]
    exact q _
theorem r_rest {M : Mp} (hpt : tb ≠ p) (hT : M tb = some (.tbl lawQ)) {b : Bag} (hM : M p = some (.lst b.l)) (hb : b.Ok) (x : Str) (w : Wr) (e0 e3 e4 e5 e6 e7 e9 e10 : Option D) (E : DEnds)
    (hK : ∀ M' e8 e9 e10, M' tb = some (.tbl lawQ) → (∃ b', Bag.Ok b' ∧ M' p = some (.lst b'.l)) → E.nx [e0, some (.ref p), some (.lst (words9.map D.str)), e3, e4, e5, e6, e7, e8, e9, e10] M') :
    (dSeq (dIfS (dTest (dBin (rEqDD id) (dCall sp_law_pull (dCons (dVar 1) (dCons (dC (.int 2)) dNil))) (dC (.int 0)))) (dSet 8 (dCall sp_law_of (dCons (dVar 1) (dCons (dLst (dCons (dSl (dVar 8) dNoPart (dPart (dUn rNegI (dC (.int 1))))) (dCons (dBin rAddD (dVar 8) (dTup (dCons (dCall sp_law_pull (dCons (dVar 1) (dCons (dC (.int 9)) dNil))) dNil))) (dCons (dBin rAddD (dTup (dCons (dC (.str "Come")) dNil)) (dSl (dVar 8) (dPart (dC (.int 1))) dNoPart)) (dCons (dTup dNil) dNil))))) dNil)))) dNext)
    (t_law_1 tb)) E [e0, some (.ref p), some (.lst (words9.map D.str)), e3, e4, e5, e6, e7, some (.tup [.str x, wrD w]), e9, e10] M := by
  walk_at "w"
  refine ⟨p, b, 2, rfl, hM, hb, by decide, by decide, fun r1 b1 hb1 r10 r11 => ?_⟩
  have hT1 : (mupd M p (.lst b1.l)) tb = some (.tbl lawQ) := by rw [mupd_ne hpt]; exact hT
  walk_at "w"
  refine ⟨⟨rfl, rfl⟩, ?_⟩
  refine brn_by (fun _ => ?_) fun _ => ?_
  · walk_at "w"
    refine ⟨p, b1, 9, rfl, mupd_same, hb1, by decide, by decide, fun r2 b2 hb2 r20 r21 => ?_⟩
    rw [mupd_mupd]
    walk_at "w"
    refine ⟨by rw [sizeLine_eq]; show 2 + 1 ≤ _; omega, ?_⟩
    walk_at "w"
    refine ⟨by rw [sizeLine_eq]; show 1 + 1 ≤ _; omega, ?_⟩
    walk_at "w"
    refine ⟨p, b2, _, [.tup [.str x], .tup [.str x, wrD w, .int r2], .tup [.str "Come", wrD w], .tup []], rfl, mupd_same, hb2, by simp, by simp, .inl ⟨rfl, fun e => by cases e⟩, fun y b3 hb3 hy => ?_⟩
    rw [mupd_mupd]
    have hT3 : (mupd M p (.lst b3.l)) tb = some (.tbl lawQ) := by rw [mupd_ne hpt]; exact hT
    obtain ⟨ys, rfl, sh⟩ : ∃ ys, y = .tup ys ∧ Sh ys := by
      simp only [List.mem_cons, List.not_mem_nil, or_false] at hy
      rcases hy with rfl | rfl | rfl | rfl
      · exact ⟨_, rfl, .inr ⟨_, _, rfl, Nat.zero_le _⟩⟩
      · exact ⟨_, rfl, .inr ⟨_, _, rfl, Nat.le_refl _⟩⟩
      · exact ⟨_, rfl, .inr ⟨_, _, rfl, Nat.le_succ _⟩⟩
      · exact ⟨_, rfl, .inl rfl⟩
    exact r_law_1 hT3 sh _ _ _ _ _ _ _ _ _ _ fun e9 e10 => hK _ _ _ _ hT3 ⟨b3, hb3, mupd_same⟩
  · walk_at "w"
    exact r_law_1 hT1 (xs := [.str x, wrD w]) (.inr ⟨_, _, rfl, Nat.le_succ _⟩) _ _ _ _ _ _ _ _ _ _ fun e9 e10 => hK _ _ _ _ hT1 ⟨b1, hb1, mupd_same⟩
end
theorem r_law (tb : Addr) (ds : List D) (M : Mp) (Q : DK) (E : DX) (hl : ds.length = 1) (h : sp_lawT tb ds M Q E) : t_law tb { nx := fun _ M' => Q .non M', rt := Q } (startD ["_law_script", "_law_bag_here", "_law_words", "_law_turn", "_law_some", "_law_letters_here", "_law_pool", "_law_m", "_law_deed", "_law_good", "_law_due"] ds) M := by
  obtain ⟨ns, rfl, hM, q⟩ := h
  have hT : M tb = some (.tbl lawQ) := by rw [hM, mupd_same]
  walk_at "w"
  refine ⟨ns, rfl, fun p b hp hb => ?_⟩
  have hpt : tb ≠ p := fun e => by rw [← e, hT] at hp; cases hp
  walk_at "w"
  refine ⟨p, b, 2, rfl, mupd_same, hb, by decide, by decide, fun cs b1 hb1 hcs c0 c1 => ?_⟩
  rw [mupd_mupd]
  walk_at "w"
  refine ⟨p, b1, 3, rfl, mupd_same, hb1, by decide, by decide, fun xs b2 hb2 hxl hxn _ => ?_⟩
  rw [mupd_mupd]
  refine ⟨rfl, ?_⟩
  walk_at "w"
  refine ⟨⟨by decide, by decide⟩, ?_⟩
  walk_at "w"
  refine for_inv (fun i env M' => M' tb = some (.tbl lawQ) ∧ (∃ b', Bag.Ok b' ∧ M' p = some (.lst b'.l)) ∧ ∃ e0 e3 e4 e8 e9 e10, env = [e0, some (.ref p), some (.lst (words9.map D.str)), e3, e4, some (.lst (cs.map sgn)), some (.lst (xs.map D.str)), some (.dct mK mV), e8, e9, e10]) ⟨by rw [mupd_ne hpt]; exact hT, ⟨b2, hb2, mupd_same⟩, _, _, _, _, _, _, rfl⟩
    (fun i x env M' K hx ⟨hT', ⟨b', hb', hM'⟩, e0, e3, e4, e8, e9, e10, ee⟩ hK => ?_) fun env M' ⟨hT', _, e0, e3, e4, e8, e9, e10, ee⟩ => ?_
  · subst ee
    walk_at "w"
    refine ⟨p, b', xs, cs, rfl, hM', hb', by omega, by omega, hxn, hcs, fun b3 cw w hb3 => ?_⟩
    walk_at "w"
    refine ⟨p, b3, 2, rfl, mupd_same, hb3, by decide, by decide, fun r1 b4 hb4 r10 r11 => ?_⟩
    rw [mupd_mupd]
    walk_at "w"
    refine ⟨⟨rfl, rfl⟩, ?_⟩
    have hT4 : (mupd M' p (.lst b4.l)) tb = some (.tbl lawQ) := by rw [mupd_ne hpt]; exact hT'
    refine brn_by (fun _ => ?_) fun _ => ?_
    · walk_at "w"
      refine ⟨p, b4, _, words9.map D.str, rfl, mupd_same, hb4, by decide, by decide, .inl ⟨rfl, fun e => by cases e⟩, fun y b5 hb5 hy => ?_⟩
      obtain ⟨w2, _, rfl⟩ := List.mem_map.mp hy
      rw [mupd_mupd]
      walk_at "w"
      refine ⟨by rw [sizeLine_eq]; show 1 + 1 ≤ _; omega, ?_⟩
      have hT5 : (mupd M' p (.lst b5.l)) tb = some (.tbl lawQ) := by rw [mupd_ne hpt]; exact hT'
      exact r_rest hpt hT5 mupd_same hb5 w2 w _ _ _ _ _ _ _ _ _ fun M2 e8 e9 e10 h1 h2 => hK _ _ ⟨h1, h2, _, _, _, _, _, _, rfl⟩
    · exact r_rest hpt hT4 mupd_same hb4 cw w _ _ _ _ _ _ _ _ _ fun M2 e8 e9 e10 h1 h2 => hK _ _ ⟨h1, h2, _, _, _, _, _, _, rfl⟩
  · subst ee
    exact r_law_2 hT' q _ _ _ _ _ _ _ _ _ _ _
end L3
set_option Elab.async false
set_option linter.all false
set_option maxRecDepth 100000
set_option maxHeartbeats 0
namespace L3
open PySem PySem.Spec PyProof.Rows L2
abbrev N_law_bag : List Str := ["_law_script", "_law_salt", "_law_cell"]
theorem sc_law_bag : FnScope N_law_bag ["_law_script"] (defScope s_law_bag) := ⟨rfl, rfl, rfl, by decide +kernel, rfl, by decide +kernel, by decide +kernel⟩
abbrev N_law_pull : List Str := ["_law_bag_here", "_law_many_here", "_law_seed", "_law_cell", "_law_got"]
theorem sc_law_pull : FnScope N_law_pull ["_law_bag_here", "_law_many_here"] (defScope s_law_pull) := ⟨rfl, rfl, rfl, by decide +kernel, rfl, by decide +kernel, by decide +kernel⟩
abbrev N_law_of : List Str := ["_law_bag_here", "_law_things"]
theorem sc_law_of : FnScope N_law_of ["_law_bag_here", "_law_things"] (defScope s_law_of) := ⟨rfl, rfl, rfl, by decide +kernel, rfl, by decide +kernel, by decide +kernel⟩
abbrev N_law_letters : List Str := []
theorem sc_law_letters : FnScope N_law_letters [] (defScope s_law_letters) := ⟨rfl, rfl, rfl, by decide +kernel, rfl, by decide +kernel, by decide +kernel⟩
abbrev N_law_signs : List Str := ["_law_bag_here", "_law_limit", "_law_start", "_law_step", "_law_many_here", "_law_letters_here", "_law_k"]
theorem sc_law_signs : FnScope N_law_signs ["_law_bag_here", "_law_limit"] (defScope s_law_signs) := ⟨rfl, rfl, rfl, by decide +kernel, rfl, by decide +kernel, by decide +kernel⟩
abbrev N_law_names : List Str := ["_law_bag_here", "_law_many_here", "_law_step", "_law_k", "_law_size", "_law_letters_here", "_law_at", "_law_start", "_law_base", "_law_found", "_law_sign", "_law_name"]
theorem sc_law_names : FnScope N_law_names ["_law_bag_here", "_law_many_here"] (defScope s_law_names) := ⟨rfl, rfl, rfl, by decide +kernel, rfl, by decide +kernel, by decide +kernel⟩
abbrev N_law_empty : List Str := []
theorem sc_law_empty : FnScope N_law_empty [] (defScope s_law_empty) := ⟨rfl, rfl, rfl, by decide +kernel, rfl, by decide +kernel, by decide +kernel⟩
abbrev N_law_turns : List Str := ["_law_m", "_law_step"]
theorem sc_law_turns : FnScope N_law_turns ["_law_m"] (defScope s_law_turns) := ⟨rfl, rfl, rfl, by decide +kernel, rfl, by decide +kernel, by decide +kernel⟩
abbrev N_law_crew : List Str := ["_law_m", "_law_turns_here"]
theorem sc_law_crew : FnScope N_law_crew ["_law_m"] (defScope s_law_crew) := ⟨rfl, rfl, rfl, by decide +kernel, rfl, by decide +kernel, by decide +kernel⟩
abbrev N_law_many : List Str := ["_law_m", "_law_step"]
theorem sc_law_many : FnScope N_law_many ["_law_m"] (defScope s_law_many) := ⟨rfl, rfl, rfl, by decide +kernel, rfl, by decide +kernel, by decide +kernel⟩
abbrev N_law_writer : List Str := ["_law_bag_here", "_law_name", "_law_places", "_law_signs_here", "_law_thick", "_law_lines", "_law_place", "_law_counts", "_law_sign"]
theorem sc_law_writer : FnScope N_law_writer ["_law_bag_here", "_law_name", "_law_places", "_law_signs_here", "_law_thick"] (defScope s_law_writer) := ⟨rfl, rfl, rfl, by decide +kernel, rfl, by decide +kernel, by decide +kernel⟩
abbrev N_law_deed_drawn : List Str := ["_law_bag_here", "_law_m", "_law_pool", "_law_letters_here", "_law_at", "_law_crew_here", "_law_many_here", "_law_pick", "_law_writer_here", "_law_some", "_law_name"]
theorem sc_law_deed_drawn : FnScope N_law_deed_drawn ["_law_bag_here", "_law_m", "_law_pool", "_law_letters_here"] (defScope s_law_deed_drawn) := ⟨rfl, rfl, rfl, by decide +kernel, rfl, by decide +kernel, by decide +kernel⟩
abbrev N_law_like : List Str := ["_law_found", "_law_due", "_law_one", "_law_other"]
theorem sc_law_like : FnScope N_law_like ["_law_found", "_law_due"] (defScope s_law_like) := ⟨rfl, rfl, rfl, by decide +kernel, rfl, by decide +kernel, by decide +kernel⟩
abbrev N_law_field : List Str := ["_law_e", "_law_plain"]
theorem sc_law_field : FnScope N_law_field ["_law_e"] (defScope s_law_field) := ⟨rfl, rfl, rfl, by decide +kernel, rfl, by decide +kernel, by decide +kernel⟩
abbrev N_law_tried : List Str := ["_law_ask", "_law_told", "_law_word", "_law_field_here", "_law_e"]
theorem sc_law_tried : FnScope N_law_tried ["_law_ask"] (defScope s_law_tried) := ⟨rfl, rfl, rfl, by decide +kernel, rfl, by decide +kernel, by decide +kernel⟩
abbrev N_InkError___init__ : List Str := ["self", "word"]
theorem sc_InkError___init__ : FnScope N_InkError___init__ ["self", "word"] (defScope s_InkError___init__) := ⟨rfl, rfl, rfl, by decide +kernel, rfl, by decide +kernel, by decide +kernel⟩
abbrev N_BadDeed___init__ : List Str := ["self"]
theorem sc_BadDeed___init__ : FnScope N_BadDeed___init__ ["self"] (defScope s_BadDeed___init__) := ⟨rfl, rfl, rfl, by decide +kernel, rfl, by decide +kernel, by decide +kernel⟩
abbrev N_need_deed : List Str := ["deed"]
theorem sc_need_deed : FnScope N_need_deed ["deed"] (defScope s_need_deed) := ⟨rfl, rfl, rfl, by decide +kernel, rfl, by decide +kernel, by decide +kernel⟩
abbrev N_law_refused : List Str := ["_law_ask"]
theorem sc_law_refused : FnScope N_law_refused ["_law_ask"] (defScope s_law_refused) := ⟨rfl, rfl, rfl, by decide +kernel, rfl, by decide +kernel, by decide +kernel⟩
abbrev N_law : List Str := ["_law_script", "_law_bag_here", "_law_words", "_law_turn", "_law_some", "_law_letters_here", "_law_pool", "_law_m", "_law_deed", "_law_good", "_law_due"]
theorem sc_law : FnScope N_law ["_law_script"] (defScope s_law) := ⟨rfl, rfl, rfl, by decide +kernel, rfl, by decide +kernel, by decide +kernel⟩
structure Txt (w : World) (K : PySem.W.Frag) (mg : Str → Option Value) : Prop where
  g_all : mg "all" = none
  g_bool : mg "bool" = none
  g_int : mg "int" = none
  g_isinstance : mg "isinstance" = none
  g_len : mg "len" = none
  g_list : mg "list" = none
  g_max : mg "max" = none
  g_range : mg "range" = none
  g_sorted : mg "sorted" = none
  g_str : mg "str" = none
  g_tuple : mg "tuple" = none
  g_zip : mg "zip" = none
  m_FORMS : mg "FORMS" = some (.ref (He.ga K "FORMS")) ∧ TblAt K w (He.ga K "FORMS") tb_FORMS
  x_InkError : InkF K mg .ve "InkError"
  i_InkError : ∃ fd dvs, FunD K "__init__" "InkError.__init__" (defArgs s_InkError___init__) (defBody s_InkError___init__) (defScope s_InkError___init__) dvs [] (He.ma K (He.ga K "InkError") "__init__") fd ∧ dvs.length = 1
  x_Missing : mg "Missing" = some (.ref (He.ga K "Missing"))
  x_NothingLeft : mg "NothingLeft" = some (.ref (He.ga K "NothingLeft"))
  g_ValueError : mg "ValueError" = none
  x_BadDeed : BadF K mg .ve "BadDeed" [] csN
  i_BadDeed : ∃ fd, FunD K "__init__" "BadDeed.__init__" (defArgs s_BadDeed___init__) (defBody s_BadDeed___init__) (defScope s_BadDeed___init__) [] [] (He.ma K (He.ga K "BadDeed") "__init__") fd
  xf : ∀ nm ∈ excs, XfC K (He.ga K nm) ∧ PySem.W.findIn K (.ref (He.ga K nm)) "word" = some none
  noF : ∀ nm ∈ excs, ∀ f ∈ (["word", "name", "most", "strip", "number", "at"] : List Str), PySem.W.findIn K (.ref (He.ga K nm)) f = some none
  hcs : ∀ nm ∈ excs, PySem.W.exmAny K (.ref (He.ga K nm)) (csE K) = some true
  d_law_bag : DefAt K mg "_law_bag" s_law_bag
  d_law_pull : DefAt K mg "_law_pull" s_law_pull
  d_law_of : DefAt K mg "_law_of" s_law_of
  d_law_letters : DefAt K mg "_law_letters" s_law_letters
  d_law_signs : DefAt K mg "_law_signs" s_law_signs
  d_law_names : DefAt K mg "_law_names" s_law_names
  d_law_empty : DefAt K mg "_law_empty" s_law_empty
  d_law_turns : DefAt K mg "_law_turns" s_law_turns
  d_law_crew : DefAt K mg "_law_crew" s_law_crew
  d_law_many : DefAt K mg "_law_many" s_law_many
  d_law_writer : DefAt K mg "_law_writer" s_law_writer
  d_law_deed_drawn : DefAt K mg "_law_deed_drawn" s_law_deed_drawn
  d_law_like : DefAt K mg "_law_like" s_law_like
  d_law_field : DefAt K mg "_law_field" s_law_field
  d_law_tried : DefAt K mg "_law_tried" s_law_tried
  d_need_deed : DefAt K mg "need_deed" s_need_deed
  d_law_refused : DefAt K mg "_law_refused" s_law_refused
  d_law : DefAt K mg "law" s_law
section
variable {P : Program} {w : World} {K : PySem.W.Frag} {mg : Str → Option Value} {base : Heap}
theorem ok_law_bag (T : Txt w K mg) : DefOk P w K mg base (1) "_law_bag" 1 sp_law_bag :=
  have sc := sc_law_bag
  def_ok (N := N_law_bag) (t := t_law_bag) T.d_law_bag sc (fun _ _ _ _ _ _ us hl => match us, hl with | [_], _ => rfl) (fun f cdv A outer s H E hr => (pdss_cons (pds_set (i := 1) sc.nd pd_int)
    (pdss_cons (pds_for PassesOwn.never (pdi_lst (pd_slice (dv 0) pdo_none (pdo_some pd_int))) (pdg_name (i := 2) sc.nd) (pdss_one (pds_set (i := 1) sc.nd (pd_op opd_mod (pd_op opd_add (pd_op opd_add (pd_op opd_mulI (dv 1) pd_int) (pd_op opd_mod (dv 2) pd_int)) pd_int) pd_int))))
    (pdss_one (pds_ret (pd_lstM (pda_cons (pd_type calld_list T.g_list (pd_slice (dv 0) pdo_none (pdo_some pd_int))) (pda_cons pd_int (pda_cons pd_int (pda_cons (dv 1) pda_nil)))))))))) r_law_bag
theorem ok_law_pull (T : Txt w K mg) : DefOk P w K mg base (1) "_law_pull" 2 sp_law_pull :=
  have sc := sc_law_pull
  def_ok (N := N_law_pull) (t := t_law_pull) T.d_law_pull sc (fun _ _ _ _ _ _ us hl => match us, hl with | [_, _], _ => rfl) (fun f cdv A outer s H E hr => (pdss_cons (pds_if (PW.pt (pdw_and (pdt_cmp (opd_eq hr) (pd_ix hr (dv 0) pd_int) pd_int) (pdw_and1 (pdt_cmp opd_lt (pd_ix hr (dv 0) pd_int) (pd_bltn calld_len T.g_len (pd_ix hr (dv 0) pd_int)))))) (pdss_cons (pds_set (i := 3) sc.nd (pd_ix hr (pd_ix hr (dv 0) pd_int) (pd_ix hr (dv 0) pd_int)))
    (pdss_cons (pds_setIx hr (pd_op opd_add (pd_ix hr (dv 0) pd_int) pd_int) (dv 0) pd_int)
    (pdss_one (pds_if (pdt_cmp opd_ge (dv 3) (pd_op opd_pow pd_int pd_int)) (pdss_one (pds_setIx hr (pd_op opd_subI (dv 3) (pd_op opd_pow pd_int pd_int)) (dv 0) pd_int)) (pdss_one (pds_setIx hr (pd_op opd_mod (pd_op opd_add (pd_op opd_add (pd_op opd_mulI (pd_ix hr (dv 0) pd_int) pd_int) (pd_op opd_mulI (pd_op opd_mod (dv 3) pd_int) pd_int)) pd_int) pd_int) (dv 0) pd_int)))))) pdss_nil)
    (pdss_cons (pds_if (pdt_cmp opd_gt (pd_ix hr (dv 0) pd_int) pd_int) (pdss_cons (pds_set (i := 4) sc.nd (pd_op opd_mod (pd_ix hr (dv 0) pd_int) (dv 1)))
    (pdss_cons (pds_setIx hr (pd_op opd_fdivW (pd_ix hr (dv 0) pd_int) (dv 1)) (dv 0) pd_int)
    (pdss_one (pds_ret (dv 4))))) pdss_nil)
    (pdss_cons (pds_set (i := 2) sc.nd (pd_ix hr (dv 0) pd_int))
    (pdss_cons (pds_setIx hr (pd_op opd_mod (pd_op opd_add (pd_op opd_add (pd_op opd_mulI (pd_op opd_mulI (dv 2) (dv 2)) pd_int) (pd_op opd_mulI (dv 2) pd_int)) pd_int) pd_int) (dv 0) pd_int)
    (pdss_one (pds_ret (pd_op opd_mod (pd_op opd_add (pd_op opd_fdivW (pd_ix hr (dv 0) pd_int) pd_int) (pd_op opd_mulI (pd_op opd_mod (pd_ix hr (dv 0) pd_int) pd_int) pd_int)) (dv 1))))))))) r_law_pull
theorem ok_law_of (T : Txt w K mg) (o_law_pull : DefOk P w K mg base (1) "_law_pull" 2 sp_law_pull) : DefOk P w K mg base (2) "_law_of" 2 sp_law_of :=
  have sc := sc_law_of
  def_ok (N := N_law_of) (t := t_law_of) T.d_law_of sc (fun _ _ _ _ _ _ us hl => match us, hl with | [_, _], _ => rfl) (fun f cdv A outer s H E hr => (pdss_one (pds_ret (pd_ix hr (dv 1) (pd_call (o_law_pull.mono (by decide)) hr (pda_cons (dv 0) (pda_cons (pd_bltn calld_len T.g_len (dv 1)) pda_nil))))))) r_law_of
theorem ok_law_letters (T : Txt w K mg) : DefOk P w K mg base (1) "_law_letters" 0 sp_law_letters :=
  have sc := sc_law_letters
  def_ok (N := N_law_letters) (t := t_law_letters) T.d_law_letters sc (fun _ _ _ _ _ _ us hl => match us, hl with | [], _ => rfl) (fun f cdv A outer s H E hr => (pdss_one (pds_ret pd_str))) r_law_letters
theorem ok_law_signs (T : Txt w K mg) (o_law_pull : DefOk P w K mg base (1) "_law_pull" 2 sp_law_pull) (o_law_of : DefOk P w K mg base (2) "_law_of" 2 sp_law_of) (o_law_letters : DefOk P w K mg base (1) "_law_letters" 0 sp_law_letters) : DefOk P w K mg base (3) "_law_signs" 2 sp_law_signs :=
  have sc := sc_law_signs
  def_ok (N := N_law_signs) (t := t_law_signs) T.d_law_signs sc (fun _ _ _ _ _ _ us hl => match us, hl with | [_, _], _ => rfl) (fun f cdv A outer s H E hr => (pdss_cons (pds_asg (pd_tup (pda_cons (pd_call (o_law_pull.mono (by decide)) hr (pda_cons (dv 0) (pda_cons pd_int pda_nil))) (pda_cons (pd_call (o_law_of.mono (by decide)) hr (pda_cons (dv 0) (pda_cons (pd_lst (pda_cons pd_int (pda_cons pd_int (pda_cons pd_int (pda_cons pd_int pda_nil))))) pda_nil))) pda_nil))) (pdg_tup (pdgs_cons (pdg_name (i := 2) sc.nd) (pdgs_cons (pdg_name (i := 3) sc.nd) pdgs_nil))))
    (pdss_cons (pds_asg (pd_tup (pda_cons (pd_op opd_add pd_int (pd_call (o_law_pull.mono (by decide)) hr (pda_cons (dv 0) (pda_cons (dv 1) pda_nil)))) (pda_cons (pd_call0 (o_law_letters.mono (by decide)) hr) pda_nil))) (pdg_tup (pdgs_cons (pdg_name (i := 4) sc.nd) (pdgs_cons (pdg_name (i := 5) sc.nd) pdgs_nil))))
    (pdss_one (pds_ret (pd_bltn (calld_sort hr) T.g_sorted (pd_lc (own := [("_law_k", 6)]) sc.nd (pdi_range1 T.g_range (pda_cons (dv 4) pda_nil)) (blkOk_by (own := [("_law_k", 6)]) (N := N_law_signs) (sc := defScope s_law_signs) (by decide +kernel)) (fun _ _ _ _ _ => (pdg_name (i := 6) sc.nd)) (fun _ _ _ _ _ => pdts_nil) (fun _ _ _ _ _ => (pd_ix hr (dv 5) (pd_op opd_mod (pd_op opd_add (dv 2) (pd_op opd_mulI (dv 3) (dv 6))) pd_int)))))))))) r_law_signs
theorem ok_law_names (T : Txt w K mg) (o_law_pull : DefOk P w K mg base (1) "_law_pull" 2 sp_law_pull) (o_law_letters : DefOk P w K mg base (1) "_law_letters" 0 sp_law_letters) (o_law_of : DefOk P w K mg base (2) "_law_of" 2 sp_law_of) : DefOk P w K mg base (3) "_law_names" 2 sp_law_names :=
  have sc := sc_law_names
  def_ok (N := N_law_names) (t := t_law_names) T.d_law_names sc (fun _ _ _ _ _ _ us hl => match us, hl with | [_, _], _ => rfl) (fun f cdv A outer s H E hr => (pdss_cons (pds_asg (pd_tup (pda_cons (pd_op opd_add pd_int (pd_call (o_law_pull.mono (by decide)) hr (pda_cons (dv 0) (pda_cons pd_int pda_nil)))) (pda_cons (pd_call0 (o_law_letters.mono (by decide)) hr) pda_nil))) (pdg_tup (pdgs_cons (pdg_name (i := 4) sc.nd) (pdgs_cons (pdg_name (i := 5) sc.nd) pdgs_nil))))
    (pdss_cons (pds_par (i := 6) (j := 7) sc.nd (pda_cons (pd_call (o_law_pull.mono (by decide)) hr (pda_cons (dv 0) (pda_cons (dv 4) pda_nil))) (pda_cons (pd_call (o_law_pull.mono (by decide)) hr (pda_cons (dv 0) (pda_cons pd_int pda_nil))) pda_nil)))
    (pdss_cons (pds_set (i := 2) sc.nd (pd_call (o_law_of.mono (by decide)) hr (pda_cons (dv 0) (pda_cons (pd_lst (pda_cons pd_int (pda_cons pd_int (pda_cons pd_int (pda_cons pd_int pda_nil))))) pda_nil))))
    (pdss_cons (pds_par (i := 8) (j := 9) sc.nd (pda_cons (pd_join pd_str (pd_lc (own := [("_law_k", 3)]) sc.nd (pdi_range1 T.g_range (pda_cons (dv 4) pda_nil)) (blkOk_by (own := [("_law_k", 3)]) (N := N_law_names) (sc := defScope s_law_names) (by decide +kernel)) (fun _ _ _ _ _ => (pdg_name (i := 3) sc.nd)) (fun _ _ _ _ _ => pdts_nil) (fun _ _ _ _ _ => (pd_call (o_law_of.mono (by decide)) hr (pda_cons (dv 0) (pda_cons (dv 5) pda_nil)))))) (pda_cons (pd_lstM pda_nil) pda_nil)))
    (pdss_cons (pds_for PassesOwn.never (pdi_range1 T.g_range (pda_cons (dv 1) pda_nil)) (pdg_name (i := 3) sc.nd) (pdss_cons (pds_set (i := 10) sc.nd (pd_ix hr (dv 5) (pd_op opd_mod (pd_op opd_add (dv 7) (pd_op opd_mulI (dv 2) (dv 3))) pd_int)))
    (pdss_cons (pds_set (i := 11) sc.nd (pd_op opd_add (pd_op opd_add (pd_slice (dv 8) pdo_none (pdo_some (dv 6))) (dv 10)) (pd_slice (dv 8) (pdo_some (pd_op opd_add (dv 6) pd_int)) pdo_none)))
    (pdss_one (pds_expr (pd_append (dv 9) (pd_if (pdt_cmp (opd_eq hr) (pd_call (o_law_pull.mono (by decide)) hr (pda_cons (dv 0) (pda_cons pd_int pda_nil))) pd_int) (pd_slice (dv 11) pdo_none (pdo_some (pd_bltn2 calld_max T.g_max (pd_op opd_add (dv 6) pd_int) (pd_op opd_subI (dv 4) (dv 3))))) (dv 11))))))))
    (pdss_one (pds_frz 9 (pds_ret (dv 9)))))))))) r_law_names
theorem ok_law_empty (T : Txt w K mg) : DefOk P w K mg base (1) "_law_empty" 0 sp_law_empty :=
  have sc := sc_law_empty
  def_ok (N := N_law_empty) (t := t_law_empty) T.d_law_empty sc (fun _ _ _ _ _ _ us hl => match us, hl with | [], _ => rfl) (fun f cdv A outer s H E hr => (pdss_one (pds_ret (pd_frz (pd_dct (pps_up pd_str (pd_lst pda_nil) (pps_up pd_str (pd_frz pd_dct0) (pps_up pd_str pd_int (pps_up pd_str (pd_lst pda_nil) (pps_up pd_str (pd_lst pda_nil) pps_up0)))))))))) r_law_empty
theorem ok_law_turns (T : Txt w K mg) : DefOk P w K mg base (1) "_law_turns" 1 sp_law_turns :=
  have sc := sc_law_turns
  def_ok (N := N_law_turns) (t := t_law_turns) T.d_law_turns sc (fun _ _ _ _ _ _ us hl => match us, hl with | [_], _ => rfl) (fun f cdv A outer s H E hr => (pdss_one (pds_ret (pd_lc (own := [("_law_step", 1)]) sc.nd (pdi_lst (pd_ix hr (dv 0) pd_str)) (blkOk_by (own := [("_law_step", 1)]) (N := N_law_turns) (sc := defScope s_law_turns) (by decide +kernel)) (fun _ _ _ _ _ => (pdg_name (i := 1) sc.nd)) (fun _ _ _ _ _ => (pdts_one (pdt_not (pdt (pd_isi .str T.g_isinstance (dv 1) T.g_str))))) (fun _ _ _ _ _ => (dv 1)))))) r_law_turns
theorem ok_law_crew (T : Txt w K mg) (o_law_turns : DefOk P w K mg base (1) "_law_turns" 1 sp_law_turns) : DefOk P w K mg base (2) "_law_crew" 1 sp_law_crew :=
  have sc := sc_law_crew
  def_ok (N := N_law_crew) (t := t_law_crew) T.d_law_crew sc (fun _ _ _ _ _ _ us hl => match us, hl with | [_], _ => rfl) (fun f cdv A outer s H E hr => (pdss_cons (pds_set (i := 1) sc.nd (pd_call (o_law_turns.mono (by decide)) hr (pda_cons (dv 0) pda_nil)))
    (pdss_one (pds_ret (pd_if (pdt_cmp (opd_ne hr) (dv 1) (pd_lst pda_nil)) (pd_type calld_list T.g_list (pd_ix hr (dv 1) (pd_neg pd_int))) (pd_lst pda_nil)))))) r_law_crew
theorem ok_law_many (T : Txt w K mg) : DefOk P w K mg base (1) "_law_many" 1 sp_law_many :=
  have sc := sc_law_many
  def_ok (N := N_law_many) (t := t_law_many) T.d_law_many sc (fun _ _ _ _ _ _ us hl => match us, hl with | [_], _ => rfl) (fun f cdv A outer s H E hr => (pdss_one (pds_ret (pd_bltn calld_len T.g_len (pd_lc (own := [("_law_step", 1)]) sc.nd (pdi_lst (pd_ix hr (dv 0) pd_str)) (blkOk_by (own := [("_law_step", 1)]) (N := N_law_many) (sc := defScope s_law_many) (by decide +kernel)) (fun _ _ _ _ _ => (pdg_name (i := 1) sc.nd)) (fun _ _ _ _ _ => (pdts_one (pdt (pd_isi .str T.g_isinstance (dv 1) T.g_str)))) (fun _ _ _ _ _ => (dv 1))))))) r_law_many
theorem ok_law_writer (T : Txt w K mg) (o_law_pull : DefOk P w K mg base (1) "_law_pull" 2 sp_law_pull) (o_law_of : DefOk P w K mg base (2) "_law_of" 2 sp_law_of) : DefOk P w K mg base (3) "_law_writer" 5 sp_law_writer :=
  have sc := sc_law_writer
  def_ok (N := N_law_writer) (t := t_law_writer) T.d_law_writer sc (fun _ _ _ _ _ _ us hl => match us, hl with | [_, _, _, _, _], _ => rfl) (fun f cdv A outer s H E hr => (pdss_cons (pds_set (i := 5) sc.nd (pd_lstM pda_nil))
    (pdss_cons (pds_for PassesOwn.never (pdi_range1 T.g_range (pda_cons (dv 2) pda_nil)) (pdg_name (i := 6) sc.nd) (pdss_one (pds_for PassesOwn.never (pdi_lst (dv 3)) (pdg_name (i := 8) sc.nd) (pdss_one (pds_if (PW.pt (pdw_and (pdt_cmp opd_lt (pd_bltn calld_len T.g_len (dv 5)) pd_int) (pdw_and1 (pdt_cmp opd_lt (pd_call (o_law_pull.mono (by decide)) hr (pda_cons (dv 0) (pda_cons pd_int pda_nil))) (dv 4))))) (pdss_one (pds_expr (pd_append (dv 5) (pd_tup (pda_cons (dv 6) (pda_cons (dv 8) (pda_cons (pd_call (o_law_pull.mono (by decide)) hr (pda_cons (dv 0) (pda_cons (dv 2) pda_nil))) pda_nil))))))) pdss_nil)))))
    (pdss_cons (pds_frz 5 (pds_set (i := 7) sc.nd (pd_lst (pda_cons pd_int (pda_cons pd_int (pda_cons pd_int (pda_cons pd_int (pda_cons pd_int (pda_cons pd_int pda_nil)))))))))
    (pdss_one (pds_ret (pd_tup (pda_cons (dv 1) (pda_cons (pd_type calld_tuple T.g_tuple (dv 5)) (pda_cons (pd_call (o_law_of.mono (by decide)) hr (pda_cons (dv 0) (pda_cons (dv 7) pda_nil))) (pda_cons (pd_call (o_law_of.mono (by decide)) hr (pda_cons (dv 0) (pda_cons (dv 7) pda_nil))) pda_nil))))))))))) r_law_writer
theorem ok_law_deed_drawn (T : Txt w K mg) (o_law_crew : DefOk P w K mg base (2) "_law_crew" 1 sp_law_crew) (o_law_many : DefOk P w K mg base (1) "_law_many" 1 sp_law_many) (o_law_pull : DefOk P w K mg base (1) "_law_pull" 2 sp_law_pull) (o_law_writer : DefOk P w K mg base (3) "_law_writer" 5 sp_law_writer) (o_law_of : DefOk P w K mg base (2) "_law_of" 2 sp_law_of) : DefOk P w K mg base (4) "_law_deed_drawn" 4 sp_law_deed_drawn :=
  have sc := sc_law_deed_drawn
  def_ok (N := N_law_deed_drawn) (t := t_law_deed_drawn) T.d_law_deed_drawn sc (fun _ _ _ _ _ _ us hl => match us, hl with | [_, _, _, _], _ => rfl) (fun f cdv A outer s H E hr => (pdss_cons (pds_par3 (i := 5) (j := 6) (l := 7) sc.nd (pda_cons (pd_call (o_law_crew.mono (by decide)) hr (pda_cons (dv 1) pda_nil)) (pda_cons (pd_call (o_law_many.mono (by decide)) hr (pda_cons (dv 1) pda_nil)) (pda_cons (pd_call (o_law_pull.mono (by decide)) hr (pda_cons (dv 0) (pda_cons pd_int pda_nil))) pda_nil))))
    (pdss_cons (pds_if (PW.pt (pdw_or (pdt_cmp (opd_eq hr) (dv 5) (pd_lst pda_nil)) (pdw_or (pdt_cmp opd_lt (dv 7) pd_int) (pdw_or1 (pdt_cmp (opd_eq hr) (dv 7) pd_int))))) (pdss_cons (pds_set (i := 8) sc.nd (pd_call (o_law_writer.mono (by decide)) hr (pda_cons (dv 0) (pda_cons (pd_call (o_law_of.mono (by decide)) hr (pda_cons (dv 0) (pda_cons (dv 2) pda_nil))) (pda_cons (pd_op opd_add pd_int (pd_call (o_law_pull.mono (by decide)) hr (pda_cons (dv 0) (pda_cons pd_int pda_nil)))) (pda_cons (dv 3) (pda_cons (pd_call (o_law_of.mono (by decide)) hr (pda_cons (dv 0) (pda_cons (pd_lst (pda_cons pd_int (pda_cons pd_int (pda_cons pd_int pda_nil)))) pda_nil))) pda_nil)))))))
    (pdss_one (pds_ret (pd_tup (pda_cons (pd_if (pdt_cmp (opd_eq hr) (dv 7) pd_int) pd_str pd_str) (pda_cons (dv 8) pda_nil)))))) pdss_nil)
    (pdss_cons pds_never
    (pdss_cons pds_never
    (pdss_cons pds_never
    (pdss_cons pds_never
    (pdss_cons pds_never
    (pdss_one pds_never))))))))) r_law_deed_drawn
theorem ok_law_like {n : Nat} (T : Txt w K mg) (o_law_like : DefOk P w K mg base (0 + n) "_law_like" 2 (sp_law_like n)) : DefOk P w K mg base (0 + n + 1) "_law_like" 2 (sp_law_like (n + 1)) :=
  have sc := sc_law_like
  def_ok (N := N_law_like) (t := t_law_like n) T.d_law_like sc (fun _ _ _ _ _ _ us hl => match us, hl with | [_, _], _ => rfl) (fun f cdv A outer s H E hr => (pdss_cons (pds_if (pdt (pd_isi2 .list .tuple T.g_isinstance (dv 1) T.g_list T.g_tuple)) (pdss_cons (pds_if (PW.pt (pdw_or (pdt_cmp (opd_ne hr) (pd_isi .list T.g_isinstance (dv 0) T.g_list) (pd_isi .list T.g_isinstance (dv 1) T.g_list)) (pdw_or1 (pdt_cmp (opd_ne hr) (pd_isi .tuple T.g_isinstance (dv 0) T.g_tuple) (pd_isi .tuple T.g_isinstance (dv 1) T.g_tuple))))) (pdss_one (pds_ret pd_bl)) pdss_nil)
    (pdss_one (pds_ret (pd_and (pd_cmp (opd_eq hr) (pd_bltn calld_len T.g_len (dv 0)) (pd_bltn calld_len T.g_len (dv 1))) (pd_one (pd_bltn calld_all T.g_all (pd_lc (own := [("_law_one", 2), ("_law_other", 3)]) sc.nd (pdi_zip T.g_zip (pda_cons (dv 0) (pda_cons (dv 1) pda_nil))) (blkOk_by (own := [("_law_one", 2), ("_law_other", 3)]) (N := N_law_like) (sc := defScope s_law_like) (by decide +kernel)) (fun _ _ _ _ _ => (pdg_tup (pdgs_cons (pdg_name (i := 2) sc.nd) (pdgs_cons (pdg_name (i := 3) sc.nd) pdgs_nil)))) (fun _ _ _ _ _ => pdts_nil) (fun _ _ _ _ _ => (pd_call o_law_like hr (pda_cons (dv 2) (pda_cons (dv 3) pda_nil))))))))))) pdss_nil)
    (pdss_cons (pds_if (PW.pt (pdw_or (pdt_cmp opd_is (dv 0) pd_non) (pdw_or1 (pdt_cmp opd_is (dv 1) pd_non)))) (pdss_one (pds_ret (pd_and (pd_cmp opd_is (dv 0) pd_non) (pd_one (pd_cmp opd_is (dv 1) pd_non))))) pdss_nil)
    (pdss_cons (pds_if (PW.pt (pdw_or (pdt_cmp (opd_ne hr) (pd_isi .bool T.g_isinstance (dv 0) T.g_bool) (pd_isi .bool T.g_isinstance (dv 1) T.g_bool)) (pdw_or1 (pdt_cmp (opd_ne hr) (pd_isi .int T.g_isinstance (dv 0) T.g_int) (pd_isi .int T.g_isinstance (dv 1) T.g_int))))) (pdss_one (pds_ret pd_bl)) pdss_nil)
    (pdss_one (pds_ret (pd_and (pd_cmp (opd_eq hr) (pd_isi .str T.g_isinstance (dv 0) T.g_str) (pd_isi .str T.g_isinstance (dv 1) T.g_str)) (pd_one (pd_cmp (opd_eq hr) (dv 0) (dv 1)))))))))) (r_law_like n)
theorem oks_law_like (T : Txt w K mg) : ∀ n, DefOk P w K mg base (0 + n) "_law_like" 2 (sp_law_like n)
  | 0 => def_void (ps := ["_law_found", "_law_due"]) T.d_law_like (fun _ _ _ _ _ _ us hl => match us, hl with | [_, _], _ => rfl) z_law_like
  | n + 1 => ok_law_like T (oks_law_like T n)
theorem ok_law_field (T : Txt w K mg) : FieldOk P w K mg base 1 excs :=
  have sc := sc_law_field
  field_ok (k := 0) (N := fieldN) (t := t_law_field) T.xf T.d_law_field sc (fun _ _ _ _ _ _ us hl => match us, hl with | [_], _ => rfl) (fun nm hn a dd oe hz hf f cdv A outer s H E hr => (pdss_cons (pds_if (pdt_cmp (opd_inH (roomHn (by decide) hr)) (pd_xf (T.xf nm hn).1 (T.noF nm hn "word" (by decide)) hz hf List.mem_cons_self (dv 0)) (pd_tup (pda_cons pd_str (pda_cons pd_str pda_nil)))) (pdss_one (pds_ret (pd_xf (T.xf nm hn).1 (T.noF nm hn "name" (by decide)) hz hf List.mem_cons_self (dv 0)))) pdss_nil)
    (pdss_cons (pds_if (pdt_cmp (opd_eqH (roomHn (by decide) hr)) (pd_xf (T.xf nm hn).1 (T.noF nm hn "word" (by decide)) hz hf List.mem_cons_self (dv 0)) pd_str) (pdss_one (pds_ret (pd_xf (T.xf nm hn).1 (T.noF nm hn "most" (by decide)) hz hf List.mem_cons_self (dv 0)))) pdss_nil)
    (pdss_cons (pds_if (pdt_cmp (opd_eqH (roomHn (by decide) hr)) (pd_xf (T.xf nm hn).1 (T.noF nm hn "word" (by decide)) hz hf List.mem_cons_self (dv 0)) pd_str) (pdss_one (pds_ret (pd_xf (T.xf nm hn).1 (T.noF nm hn "strip" (by decide)) hz hf List.mem_cons_self (dv 0)))) pdss_nil)
    (pdss_cons (pds_if (pdt_cmp (opd_eqH (roomHn (by decide) hr)) (pd_xf (T.xf nm hn).1 (T.noF nm hn "word" (by decide)) hz hf List.mem_cons_self (dv 0)) pd_str) (pdss_one (pds_ret (pd_xf (T.xf nm hn).1 (T.noF nm hn "number" (by decide)) hz hf List.mem_cons_self (dv 0)))) pdss_nil)
    (pdss_cons (pds_set (i := 1) sc.nd pd_str)
    (pdss_one (pds_ret (pd_if (pdt_cmp (opd_inH (roomHn (by decide) hr)) (pd_xf (T.xf nm hn).1 (T.noF nm hn "word" (by decide)) hz hf List.mem_cons_self (dv 0)) (pd_split (dv 1) pd_str)) pd_non (pd_xf (T.xf nm hn).1 (T.noF nm hn "at" (by decide)) hz hf List.mem_cons_self (dv 0))))))))))) (fun a dd ns xs d M Q h q => r_law_field a dd ns xs d M Q h q)
theorem ok_law_tried {k : Nat} (T : Txt w K mg) (FO : FieldOk P w K mg base k excs) : TriedOk P w K mg base (k + 1) (csE K) excs :=
  have sc := sc_law_tried
  tried_ok T.d_law_tried sc (fun _ _ _ _ _ _ us hl => match us, hl with | [_], _ => rfl) (fun g cdv A outer s H f c q tl j hj C hr => pss_cons (ps_asg (pe_tup (pa_cons pe_non (pa_cons pe_str (pa_cons pe_non pa_nil)))) (pg_tup rfl (pgs_cons (pg_name sc.nd rfl (.inl rfl)) (pgs_cons (pg_name sc.nd rfl (.inl rfl)) (pgs_cons (pg_name sc.nd rfl (.inl rfl)) pgs_nil)))))
    (pss_cons (ps_try_tup rfl rfl sc.nd rfl rfl ⟨rfl, by decide, .inl T.x_InkError.gl⟩ ⟨rfl, by decide, .inl T.x_Missing⟩ ⟨rfl, by decide, .inl T.x_NothingLeft⟩ (fun W pn xe tk => pss_one (ps_set sc.nd rfl (.inl rfl) (pe_ask C rfl tk (hr.mono hj) rfl (.inl rfl))))
      (fun a oe cls d pn hz hf => pss_one (ps_parH ⟨(a, oe), ⟨rfl, let ⟨vs, hv⟩ := hf; ⟨vs, hv, hz.2.2 vs hv⟩⟩, List.mem_cons_self⟩ sc.nd rfl rfl (by decide) rfl rfl (pa_cons (pe_word FO hz hf) (pa_cons (pe_field FO (markH hr _) hz hf) pa_nil)))))
    (pss_one (ps_ret (pe_tup (pa_cons (pv 1) (pa_cons (pv 2) (pa_cons (pv 3) pa_nil))))))))
theorem ok_InkError (T : Txt w K mg) : InkOk P w K mg base 1 .ve "InkError" :=
  let ⟨_, _, F, hd⟩ := T.i_InkError
  have sc := sc_InkError___init__
  inkOk_of T.x_InkError F hd sc (fun T kV doc pm an cdv ct us its hu hi => match us, its, hu, hi with | [_, _], [_], _, _ => ⟨_, rfl, rfl⟩) (fun cdv A outer s H E => pss_cons (ps_expr (pe_viinit rfl T.g_ValueError T.x_InkError.ve (pa_cons (pv 0) (pa_cons (pv 1) pa_nil)))) (pss_one (ps_osb (pv 0) (pv 1))))
theorem ok_b_BadDeed (T : Txt w K mg) (ik : InkOk P w K mg base 1 .ve "InkError") : BadOk P w K mg base 2 "BadDeed" [] :=
  let ⟨_, F⟩ := T.i_BadDeed
  have sc := sc_BadDeed___init__
  badOk_of0 T.x_BadDeed F sc (fun _ _ _ _ _ _ us hl => match us, hl with | [_], _ => rfl) (fun cdv A outer s H E hr => (pss_one (ps_expr (pe_ink ik hr (pa_cons (pv 0) (pa_cons pe_str pa_nil))))))
theorem ok_need_deed (T : Txt w K mg) (b_BadDeed : BadOk P w K mg base 2 "BadDeed" []) : DefOk P w K mg base (4) "need_deed" 1 sp_need_deed :=
  have sc := sc_need_deed
  def_okX (N := N_need_deed) (t := t_need_deed) T.d_need_deed sc (fun _ _ _ _ _ _ us hl => match us, hl with | [_], _ => rfl) (fun f cdv A outer s H E hr => (pssx_one (psx_if (PW.pt (pdw_or (pdt_cmp (opd_eq hr) (pd_bltn calld_len T.g_len (dv 0)) pd_int) (pdw_or (pdt_notinT T.m_FORMS (pd_ix hr (dv 0) pd_int)) (pdw_or1 (pdt_cmp (opd_ne hr) (pd_bltn calld_len T.g_len (dv 0)) (pd_op opd_add pd_int (pd_bltn calld_len T.g_len (pd_ixT T.m_FORMS (pd_ix hr (dv 0) pd_int))))))))) (pssx_one (psx_raise0 takes_body (b_BadDeed.mono (by decide)) hr)) (pssx_of pdss_nil)))) r_need_deed
theorem ok_law_refused {k : Nat} (T : Txt w K mg) (o : TriedOk P w K mg base k (csE K) excs) : RefusedOk P w K mg base (k + 1) (csE K) excs :=
  have sc := sc_law_refused
  refused_ok T.d_law_refused sc (fun _ _ _ _ _ _ us hl => match us, hl with | [_], _ => rfl) (fun g cdv A outer s H f c q tl j hj mo mx C hr => pss_one (ps_ret (pe_slice sl_tupA (pe_tried o C mo mx rfl rfl hr hj) (po_some pe_int) po_none)))
theorem fn_law {fd : FuncData} (F : FunD K "law" "law" (defArgs s_law) (defBody s_law) (defScope s_law) [] [] (He.fAd K ("law", none)) fd) (T : Txt w K mg) (o_law_bag : DefOk P w K mg base (1) "_law_bag" 1 sp_law_bag) (o_law_signs : DefOk P w K mg base (3) "_law_signs" 2 sp_law_signs) (o_law_names : DefOk P w K mg base (3) "_law_names" 2 sp_law_names) (o_law_empty : DefOk P w K mg base (1) "_law_empty" 0 sp_law_empty) (o_law_deed_drawn : DefOk P w K mg base (4) "_law_deed_drawn" 4 sp_law_deed_drawn) (o_law_pull : DefOk P w K mg base (1) "_law_pull" 2 sp_law_pull) (o_law_of : DefOk P w K mg base (2) "_law_of" 2 sp_law_of) (o_law_like : DefOk P w K mg base (8) "_law_like" 2 (sp_law_like 8)) (o_need_deed : DefOk P w K mg base (4) "need_deed" 1 sp_need_deed) (TB : LamX.TabB base mg (He.cT K ("law", none)).1 (He.cT K ("law", none)).2) (o_law_refused : RefusedOk P w K mg base (11) (csE K) excs) (o_law_tried : TriedOk P w K mg base (11) (csE K) excs) : FnOk P w K mg base (L2N.CX P w) (12) (He.fAd K ("law", none)) fd ["_law_script"] (upSp K 1 (sp_lawT (He.cT K ("law", none)).2)) :=
  have sc := sc_law
  def_fnL (N := N_law) (t := (t_law (He.cT K ("law", none)).2)) F sc (fun A outer s H E hr => (pdss_cons (pds_set (i := 1) sc.nd (pd_call (o_law_bag.mono (by decide)) hr (pda_cons (dv 0) pda_nil)))
    (pdss_cons (pds_par3 (i := 5) (j := 6) (l := 7) sc.nd (pda_cons (pd_call (o_law_signs.mono (by decide)) hr (pda_cons (dv 1) (pda_cons pd_int pda_nil))) (pda_cons (pd_call (o_law_names.mono (by decide)) hr (pda_cons (dv 1) (pda_cons pd_int pda_nil))) (pda_cons (pd_call0 (o_law_empty.mono (by decide)) hr) pda_nil))))
    (pdss_cons (pds_set (i := 2) sc.nd (pd_lst (pda_cons pd_str (pda_cons pd_str (pda_cons pd_str (pda_cons pd_str (pda_cons pd_str (pda_cons pd_str (pda_cons pd_str (pda_cons pd_str (pda_cons pd_str pda_nil)))))))))))
    (pdss_cons (pds_for PassesOwn.never (pdi_range1 T.g_range (pda_cons pd_int pda_nil)) (pdg_name (i := 3) sc.nd) (pdss_cons (pds_set (i := 8) sc.nd (pd_call (o_law_deed_drawn.mono (by decide)) hr (pda_cons (dv 1) (pda_cons (dv 7) (pda_cons (dv 6) (pda_cons (dv 5) pda_nil))))))
    (pdss_cons (pds_set (i := 8) sc.nd (pd_if (pdt_cmp (opd_eq hr) (pd_call (o_law_pull.mono (by decide)) hr (pda_cons (dv 1) (pda_cons pd_int pda_nil))) pd_int) (pd_op opd_add (pd_tup (pda_cons (pd_call (o_law_of.mono (by decide)) hr (pda_cons (dv 1) (pda_cons (dv 2) pda_nil))) pda_nil)) (pd_slice (dv 8) (pdo_some pd_int) pdo_none)) (dv 8)))
    (pdss_cons (pds_if (pdt_cmp (opd_eq hr) (pd_call (o_law_pull.mono (by decide)) hr (pda_cons (dv 1) (pda_cons pd_int pda_nil))) pd_int) (pdss_one (pds_set (i := 8) sc.nd (pd_call (o_law_of.mono (by decide)) hr (pda_cons (dv 1) (pda_cons (pd_lst (pda_cons (pd_slice (dv 8) pdo_none (pdo_some (pd_neg pd_int))) (pda_cons (pd_op opd_add (dv 8) (pd_tup (pda_cons (pd_call (o_law_pull.mono (by decide)) hr (pda_cons (dv 1) (pda_cons pd_int pda_nil))) pda_nil))) (pda_cons (pd_op opd_add (pd_tup (pda_cons pd_str pda_nil)) (pd_slice (dv 8) (pdo_some pd_int) pdo_none)) (pda_cons (pd_tup pda_nil) pda_nil))))) pda_nil))))) pdss_nil)
    (pdss_cons (pds_set (i := 9) sc.nd (pd_and (pd_cmp opd_gt (pd_bltn calld_len T.g_len (dv 8)) pd_int) (pd_and (pd_cmp (opd_in hr) (pd_ix hr (dv 8) pd_int) (dv 2)) (pd_one (pd_cmp (opd_eq hr) (pd_op opd_subI (pd_bltn calld_len T.g_len (dv 8)) pd_int) (pd_op opd_add pd_int (pd_type calld_intB T.g_int (pd_cmp (opd_in hr) (pd_ix hr (dv 8) pd_int) (pd_tup (pda_cons pd_str (pda_cons pd_str pda_nil)))))))))))
    (pdss_cons (pds_set (i := 10) sc.nd (pd_if (pdt (dv 9)) (pd_tup (pda_cons pd_non (pda_cons pd_str (pda_cons pd_non pda_nil)))) (pd_tup (pda_cons pd_non (pda_cons pd_str (pda_cons pd_non pda_nil))))))
    (pdss_one (pds_if (pdt_not (pdt (pd_call (o_law_like.mono (by decide)) hr (pda_cons (pd_try (j := 9) o_law_tried T.hcs TB rfl hr (by decide) (LamX.lamS_by (by show LamX.lamSB (defScope s_law) _ = true; decide +kernel)) (fun A outer s1 H1 E f c' hr => (pdx_call takes_lam (o_need_deed.mono (by decide)) hr (pda_cons (dv 8) pda_nil)))) (pda_cons (dv 10) pda_nil))))) (pdss_one (pds_ret pd_bl)) pdss_nil))))))))
    (pdss_cons (pds_setLc (i := 4) (own := [("_law_deed", 8)]) sc.nd (sw_true rfl rfl rfl (by decide +kernel)) (pdi_lst (pd_lst (pda_cons (pd_tup pda_nil) (pda_cons (pd_tup (pda_cons pd_str pda_nil)) (pda_cons (pd_tup (pda_cons pd_str (pda_cons pd_int pda_nil))) (pda_cons (pd_tup (pda_cons pd_str pda_nil)) (pda_cons (pd_tup (pda_cons pd_str pda_nil)) pda_nil))))))) (blkOk_by (own := [("_law_deed", 8)]) (N := N_law) (sc := defScope s_law) (by decide +kernel)) (fun _ _ _ _ _ => (pdg_name (i := 8) sc.nd)) (fun _ _ _ _ _ => pdts_nil) (fun _ _ _ _ _ => (pd_ref (j := 8) o_law_refused T.hcs TB rfl hr (by decide) (LamX.lamS_by (by show LamX.lamSB (defScope s_law) _ = true; decide +kernel)) (fun A outer s1 H1 E f c' hr => (pdx_call takes_lam (o_need_deed.mono (by decide)) hr (pda_cons (dv 8) pda_nil))))))
    (pdss_one (pds_ret (pd_call (o_law_like.mono (by decide)) hr (pda_cons (dv 4) (pda_cons (pd_op opd_mulL (pd_lst (pda_cons (pd_tup (pda_cons pd_str (pda_cons pd_non pda_nil))) pda_nil)) pd_int) pda_nil))))))))))) (r_law _)
end
theorem txt {w : World} {K : PySem.W.Frag} {h : Heap} {mg : Str → Option Value} (X : K.In h) (G : h.Ns mainGlobals mg) (c : SaysX fbl fal fnl K) (ct : ∀ t ∈ tsl, ∃ es n, L2.KDict K w (t.1 K) es n) : Txt w K mg where
  g_all := He.free_ok X G (c.d.fact 18 (f := .free "all") rfl)
  g_bool := He.free_ok X G (c.d.fact 19 (f := .free "bool") rfl)
  g_int := He.free_ok X G (c.d.fact 20 (f := .free "int") rfl)
  g_isinstance := He.free_ok X G (c.d.fact 21 (f := .free "isinstance") rfl)
  g_len := He.free_ok X G (c.d.fact 22 (f := .free "len") rfl)
  g_list := He.free_ok X G (c.d.fact 23 (f := .free "list") rfl)
  g_max := He.free_ok X G (c.d.fact 24 (f := .free "max") rfl)
  g_range := He.free_ok X G (c.d.fact 25 (f := .free "range") rfl)
  g_sorted := He.free_ok X G (c.d.fact 26 (f := .free "sorted") rfl)
  g_str := He.free_ok X G (c.d.fact 27 (f := .free "str") rfl)
  g_tuple := He.free_ok X G (c.d.fact 28 (f := .free "tuple") rfl)
  g_zip := He.free_ok X G (c.d.fact 29 (f := .free "zip") rfl)
  m_FORMS := ⟨He.glo_ok X G (c.d.fact 30 (f := .glo "FORMS") rfl), tbl_strs (ks := ["come", "leave", "change", "sign", "said", "denied", "unsay", "watch", "unwatch"]) (zs := ["w", "n", "w", "s", "bn", "bn", "b", "b", "b"]) (ct _ List.mem_cons_self) (c.b 0 (f := fb0) rfl) (by decide +kernel)⟩
  x_InkError := inkB_ok X G (c.b 1 (f := fb1) rfl)
  i_InkError := let ⟨fd, F⟩ := c.d.def_ 15 (d := dd_InkError___init__) rfl; ⟨fd, _, F, rfl⟩
  x_Missing := He.glo_ok X G (c.d.fact 31 (f := .glo "Missing") rfl)
  x_NothingLeft := He.glo_ok X G (c.d.fact 32 (f := .glo "NothingLeft") rfl)
  g_ValueError := He.free_ok X G (c.d.fact 33 (f := .free "ValueError") rfl)
  x_BadDeed := badB_ok X G (c.b 2 (f := fb2) rfl)
  i_BadDeed := c.d.def_ 16 (d := dd_BadDeed___init__) rfl
  xf := fun nm hn => by
    simp only [excs, List.mem_cons, List.not_mem_nil, or_false] at hn
    rcases hn with rfl
    · exact let b := badB_ok X G (c.b 2 (f := fb2) rfl); ⟨b.xf, b.c.word⟩
  noF := fun nm hn => by
    simp only [excs, List.mem_cons, List.not_mem_nil, or_false] at hn
    rcases hn with rfl
    · exact fun f hf => (List.mem_cons.mp hf).elim (fun z => by rw [z]; exact (badB_ok X G (c.b 2 (f := fb2) rfl)).c.word) (fun z => atB_ok (c.b 3 (f := fb3) rfl) f z)
  hcs := fun nm hn => by
    simp only [excs, List.mem_cons, List.not_mem_nil, or_false] at hn
    rcases hn with rfl
    · exact (badB_ok X G (c.b 2 (f := fb2) rfl)).ex
  d_law_bag := ⟨_, (c.d.def_ 0 (d := dd_law_bag) rfl).choose, (c.d.def_ 0 (d := dd_law_bag) rfl).choose_spec, He.glo_ok X G (c.d.fact 0 (f := .glo "_law_bag") rfl)⟩
  d_law_pull := ⟨_, (c.d.def_ 1 (d := dd_law_pull) rfl).choose, (c.d.def_ 1 (d := dd_law_pull) rfl).choose_spec, He.glo_ok X G (c.d.fact 1 (f := .glo "_law_pull") rfl)⟩
  d_law_of := ⟨_, (c.d.def_ 2 (d := dd_law_of) rfl).choose, (c.d.def_ 2 (d := dd_law_of) rfl).choose_spec, He.glo_ok X G (c.d.fact 2 (f := .glo "_law_of") rfl)⟩
  d_law_letters := ⟨_, (c.d.def_ 3 (d := dd_law_letters) rfl).choose, (c.d.def_ 3 (d := dd_law_letters) rfl).choose_spec, He.glo_ok X G (c.d.fact 3 (f := .glo "_law_letters") rfl)⟩
  d_law_signs := ⟨_, (c.d.def_ 4 (d := dd_law_signs) rfl).choose, (c.d.def_ 4 (d := dd_law_signs) rfl).choose_spec, He.glo_ok X G (c.d.fact 4 (f := .glo "_law_signs") rfl)⟩
  d_law_names := ⟨_, (c.d.def_ 5 (d := dd_law_names) rfl).choose, (c.d.def_ 5 (d := dd_law_names) rfl).choose_spec, He.glo_ok X G (c.d.fact 5 (f := .glo "_law_names") rfl)⟩
  d_law_empty := ⟨_, (c.d.def_ 6 (d := dd_law_empty) rfl).choose, (c.d.def_ 6 (d := dd_law_empty) rfl).choose_spec, He.glo_ok X G (c.d.fact 6 (f := .glo "_law_empty") rfl)⟩
  d_law_turns := ⟨_, (c.d.def_ 7 (d := dd_law_turns) rfl).choose, (c.d.def_ 7 (d := dd_law_turns) rfl).choose_spec, He.glo_ok X G (c.d.fact 7 (f := .glo "_law_turns") rfl)⟩
  d_law_crew := ⟨_, (c.d.def_ 8 (d := dd_law_crew) rfl).choose, (c.d.def_ 8 (d := dd_law_crew) rfl).choose_spec, He.glo_ok X G (c.d.fact 8 (f := .glo "_law_crew") rfl)⟩
  d_law_many := ⟨_, (c.d.def_ 9 (d := dd_law_many) rfl).choose, (c.d.def_ 9 (d := dd_law_many) rfl).choose_spec, He.glo_ok X G (c.d.fact 9 (f := .glo "_law_many") rfl)⟩
  d_law_writer := ⟨_, (c.d.def_ 10 (d := dd_law_writer) rfl).choose, (c.d.def_ 10 (d := dd_law_writer) rfl).choose_spec, He.glo_ok X G (c.d.fact 10 (f := .glo "_law_writer") rfl)⟩
  d_law_deed_drawn := ⟨_, (c.d.def_ 11 (d := dd_law_deed_drawn) rfl).choose, (c.d.def_ 11 (d := dd_law_deed_drawn) rfl).choose_spec, He.glo_ok X G (c.d.fact 11 (f := .glo "_law_deed_drawn") rfl)⟩
  d_law_like := ⟨_, (c.d.def_ 12 (d := dd_law_like) rfl).choose, (c.d.def_ 12 (d := dd_law_like) rfl).choose_spec, He.glo_ok X G (c.d.fact 12 (f := .glo "_law_like") rfl)⟩
  d_law_field := ⟨_, (c.d.def_ 13 (d := dd_law_field) rfl).choose, (c.d.def_ 13 (d := dd_law_field) rfl).choose_spec, He.glo_ok X G (c.d.fact 13 (f := .glo "_law_field") rfl)⟩
  d_law_tried := ⟨_, (c.d.def_ 14 (d := dd_law_tried) rfl).choose, (c.d.def_ 14 (d := dd_law_tried) rfl).choose_spec, He.glo_ok X G (c.d.fact 14 (f := .glo "_law_tried") rfl)⟩
  d_need_deed := ⟨_, (c.d.def_ 17 (d := dd_need_deed) rfl).choose, (c.d.def_ 17 (d := dd_need_deed) rfl).choose_spec, He.glo_ok X G (c.d.fact 15 (f := .glo "need_deed") rfl)⟩
  d_law_refused := ⟨_, (c.d.def_ 18 (d := dd_law_refused) rfl).choose, (c.d.def_ 18 (d := dd_law_refused) rfl).choose_spec, He.glo_ok X G (c.d.fact 16 (f := .glo "_law_refused") rfl)⟩
  d_law := ⟨_, (c.d.def_ 19 (d := dd_law) rfl).choose, (c.d.def_ 19 (d := dd_law) rfl).choose_spec, He.glo_ok X G (c.d.fact 17 (f := .glo "law") rfl)⟩
theorem facts {P : Program} {w : World} {K : PySem.W.Frag} {h : Heap} {mg : Str → Option Value} {f : Addr} (X : K.In h) (G : h.Ns mainGlobals mg) (hfa : mg ("law" : Str) = some (.ref f)) (c : SaysX fbl fal fnl K) (ct : ∀ t ∈ tsl, ∃ es n, L2.KDict K w (t.1 K) es n) :
    ∃ fd : FuncData, (∀ (s : Shared) (v : Value), BindsTo s fd ⟨[v], []⟩ [("_law_script", v)]) ∧ ∀ base : Heap, K.In base → base.Ns mainGlobals mg → LamX.TabB base mg (He.cT K ("law", none)).1 (He.cT K ("law", none)).2 → FnOk P w K mg base (L2N.CX P w) 12 f fd ["_law_script"] (upSp K 1 (sp_lawT (He.cT K ("law", none)).2)) := by
  obtain ⟨fd, F⟩ := c.d.def_ 19 (d := dd_law) rfl
  have e := hfa.symm.trans (He.glo_ok X G (c.d.fact 17 (f := .glo "law") rfl))
  cases e
  have T := txt X G c ct
  refine ⟨fd, fun s v => FunD.bindsA (ps := ["_law_script"]) F (fun _ _ _ _ _ _ us hl => match us, hl with | [_], _ => rfl) s [v] rfl, fun base _ _ TB => ?_⟩
  have o_law_bag := ok_law_bag (P := P) (w := w) (base := base) T
  have o_law_pull := ok_law_pull (P := P) (w := w) (base := base) T
  have o_law_of := ok_law_of (P := P) (w := w) (base := base) T o_law_pull
  have o_law_letters := ok_law_letters (P := P) (w := w) (base := base) T
  have o_law_signs := ok_law_signs (P := P) (w := w) (base := base) T o_law_pull o_law_of o_law_letters
  have o_law_names := ok_law_names (P := P) (w := w) (base := base) T o_law_pull o_law_letters o_law_of
  have o_law_empty := ok_law_empty (P := P) (w := w) (base := base) T
  have o_law_turns := ok_law_turns (P := P) (w := w) (base := base) T
  have o_law_crew := ok_law_crew (P := P) (w := w) (base := base) T o_law_turns
  have o_law_many := ok_law_many (P := P) (w := w) (base := base) T
  have o_law_writer := ok_law_writer (P := P) (w := w) (base := base) T o_law_pull o_law_of
  have o_law_deed_drawn := ok_law_deed_drawn (P := P) (w := w) (base := base) T o_law_crew o_law_many o_law_pull o_law_writer o_law_of
  have o_law_like := oks_law_like (P := P) (w := w) (base := base) T 8
  have o_law_field := ok_law_field (P := P) (w := w) (base := base) T
  have o_InkError := ok_InkError (P := P) (w := w) (base := base) T
  have b_BadDeed := ok_b_BadDeed (P := P) (w := w) (base := base) T o_InkError
  have o_need_deed := ok_need_deed (P := P) (w := w) (base := base) T b_BadDeed
  have o_law_tried := ok_law_tried (k := 10) (P := P) (w := w) (base := base) T (o_law_field.mono (by decide))
  have o_law_tried1 := ok_law_tried (k := 9) (P := P) (w := w) (base := base) T (o_law_field.mono (by decide))
  have o_law_refused := ok_law_refused (k := 10) (P := P) (w := w) (base := base) T o_law_tried1
  exact fn_law F T o_law_bag o_law_signs o_law_names o_law_empty o_law_deed_drawn o_law_pull o_law_of o_law_like o_need_deed TB o_law_refused o_law_tried
end L3
open PySem PySem.W PySem.Calls PyProof.Rows
theorem PySem.Challenge.cw_whoseink_k50_deeds_of_a_form_holds : PySem.Challenge.rw_whoseink_k50_deeds_of_a_form.Holds := by
  refine L3.head_of ?_
  intro w mg fa h Y G hmg0
  obtain ⟨K, KX, c⟩ := Y
  have hmg : mg ("law" : PySem.Str) = some (.ref fa) := by
    exact hmg0
  obtain ⟨fd, hb, hF⟩ := L3.facts (P := PySem.W.OpenLaw.prog PySem.Challenge.rw_whoseink_k50_deeds_of_a_form) (w := w) KX G hmg c.c c.tab
  have one : ∀ p ∈ [He.cT K ("law", none)], p = He.cT K ("law", none) := fun p hp => List.mem_singleton.mp hp
  have mem : (("law" : PySem.Str), (none : Option PySem.Str)) ∈ L3.tfl := List.mem_singleton_self _
  exact ⟨K, KX, fd, [He.cT K ("law", none)], L3.upSp K 1 (L3.sp_lawT (He.cT K ("law", none)).2), fun p hp => by rw [one p hp]; exact c.empty _ mem, fun p hp => by rw [one p hp]; exact c.out _ mem, fun p hp => by rw [one p hp]; exact PySem.W.codeHd_of_K KX (c.hd _ mem), hb, fun H a ns hl _ hH hS => L3.law_startT (hH _ (List.mem_singleton_self _)) hS (L3.law_okT _ ns), fun base hK hN hT => hF base hK hN (hT _ (List.mem_singleton_self _))⟩
