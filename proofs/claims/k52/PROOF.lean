import PyProof.Rows.All
import Wide.All
import OpenK.AllK
import Wide.FinOn
import KE.KStateDown
import HandS.ForMost
import HandS.Flow
import HandS.IsInst
import HandS.HeadHook2
import KE.KDictKeyed
import HandS.Lambda
import HandS.Defaults
import HandS.Zip
import HandS.Exc
import HandS.ExcCtx
import HandS.Deep
import HandS.TupAny
import HandS.TupMul
import KE.SortData
import HandS.DictComp
import HandS.Walk
import HandS.TupSets
import KE.KeyNested
import KE.DataCmp
import HandS.Style
import HandS.FStr
import HandS.RaiseMore
import PyProof.FitsInt
import HandS.TryOnly
import HandS.More
import HandS.Zip0
import PyProof.EnumMake
import PyProof.EnumFor
import HandS.Strs
import HandS.Words
import HandS.HeadHook1
import HandS.Wide
import Lean
import HandS.Ends
import HandS.WordsExc
import HandS.Head0
import HandS.Head1
import HandS.Head2
import HandS.HeadEnd
import HandS.Head3
import Open.Pieces
import HandS.MakeKwOnly
import HandS.ExcInit
import HandS.ClsMeth
import KE.KExcInit
import PyProof.ExcBaseAll.LookupError
import PyProof.ExcBaseAll.IndexError
import PyProof.ExcBaseAll.ValueError
import PyProof.ExcFactsAll.LookupError
import PyProof.ExcFactsAll.IndexError
import HandS.HotCalls
import KE.KTryMore
import HandS.ExcField
import HandS.HeadHook4
import HandS.EndOwn
import HandS.HeadWalk
import HandS.SetBool
import KE.KDictSum
import KE.KDictPairs
import PySem.Challenge.RW_whoseink_k52_deed_texts_refused
import PyProof.StrOps2
import PyProof.FitsReplace
import PyProof.StrLawsOcc
import KE.KUnpackStar
import KE.GoesMore
import KE.KIntText
import KE.IntTextText
import PyProof.Rows.StrItems
import PyProof.DictUpdate
set_option Elab.async false
set_option linter.all false
set_option maxRecDepth 100000
set_option maxHeartbeats 1000000
namespace L3
open PySem PySem.Spec PyProof.Rows L2
/-- a class of the text: its name, the fields of its instances in the order in which they are first stored -/
structure Cl where
  nm : Str
  fs : List Str
/-- data: what never changes, and references to what may -/
inductive D where
  | non | bl (b : Bool) | int (i : Int) | str (x : Str) | ty (n : String) | ref (a : Addr)
  | tup (xs : List D) | lst (xs : List D)
  /-- a list that is read alone (the script) -/
  | lsk (xs : List D)
  /-- a dict whose keys are numbers and texts -/
  | dct (ks : List L2.Key) (xs : List D)
  /-- an instance of a class of the text, the fields' data -/
  | obj (c : Cl) (xs : List D)
  /-- a dict whose keys are tuples of any depth -/
  | dkd (w : World) (ks xs : List D)
  /-- an exception that is handled: it, its dict, its fields -/
  | exc (a dd : Addr) (ns : List Str) (xs : List D)
  /-- a lambda: it, its code object, the code's name -/
  | fn (f c : Addr) (q : Str)
mutual
/-- data that may be keys: numbers, texts, None, tuples of these, at most n deep -/
def D.nk : Nat → D → Bool
  | _, .non => true
  | _, .int _ => true
  | _, .str _ => true
  | n + 1, .tup ds => D.nks n ds
  | _, _ => false
def D.nks : Nat → List D → Bool
  | _, [] => true
  | n, d :: ds => D.nk n d && D.nks n ds
end
mutual
/-- .. truth values among them -/
def D.nkb : Nat → D → Bool
  | _, .non => true
  | _, .bl _ => true
  | _, .int _ => true
  | _, .str _ => true
  | n + 1, .tup ds => D.nkbs n ds
  | _, _ => false
def D.nkbs : Nat → List D → Bool
  | _, [] => true
  | n, d :: ds => D.nkb n d && D.nkbs n ds
end
mutual
def keyN : D → NestedKey
  | .bl b => .num (if b = true then 1 else 0)
  | .int i => .num i
  | .str x => .text x
  | .tup ds => .tup (keyNs ds)
  | _ => .none
def keyNs : List D → List NestedKey
  | [] => []
  | d :: ds => keyN d :: keyNs ds
end
/-- a tuple that may be a key -/
def isKey (d : D) : Bool := match d with
  | .tup _ => D.nk 8 d
  | _ => false
/-- .. of a dict -/
def isKeyB (d : D) : Bool := match d with
  | .tup _ => D.nkb 8 d
  | _ => false
/-- an object that may change -/
inductive MO where
  | lst (xs : List D)
  | dct (ks : List L2.Key) (xs : List D)
  | ins (c : Cl) (xs : List D)
  | dkd (w : World) (ks xs : List D)
  /-- a table of code objects of one name -/
  | tbl (q : Str)
abbrev Mp := Addr → Option MO
def mupd (M : Mp) (a : Addr) (o : MO) : Mp := fun b => if b = a then some o else M b
def mdel (M : Mp) (a : Addr) : Mp := fun b => if b = a then none else M b
theorem mupd_same {M : Mp} {a : Addr} {o : MO} : mupd M a o a = some o := by unfold mupd; rw [if_pos rfl]
theorem mupd_ne {M : Mp} {a b : Addr} {o : MO} (h : b ≠ a) : mupd M a o b = M b := by unfold mupd; rw [if_neg h]
theorem mupd_mupd {M : Mp} {a : Addr} {o u : MO} : mupd (mupd M a o) a u = mupd M a u := by
  funext b; unfold mupd; split <;> rfl
theorem mupd_id {M : Mp} {a : Addr} {o : MO} (h : M a = some o) : mupd M a o = M := by
  funext b; unfold mupd; split
  · rename_i e; rw [e, h]
  · rfl
theorem mdel_same {M : Mp} {a : Addr} : mdel M a a = none := by unfold mdel; rw [if_pos rfl]
theorem mdel_ne {M : Mp} {a b : Addr} (h : b ≠ a) : mdel M a b = M b := by unfold mdel; rw [if_neg h]
theorem mdel_mupd {M : Mp} {a : Addr} {o : MO} (h : M a = none) : mdel (mupd M a o) a = M := by
  funext b; unfold mdel mupd; split
  · rename_i e; rw [e, h]
  · rfl
/-- a text of a size that the machine takes, of signs that there are -/
def SOk (x : Str) : Prop := x.length ≤ sizeLine ∧ ∀ c ∈ x.cps.toList, c < 0x110000
instance (x : Str) : Decidable (SOk x) := by unfold SOk; infer_instance
/-- the keys and the values of a dict -/
def KsOk (ks : List L2.Key) (ds : List D) : Prop := ks.length = ds.length ∧ ∀ x, Sum.inr x ∈ ks → SOk x
/-- a dict's rows: the key's tuple, the key, the value -/
abbrev DRow := Addr × D × V
def RowIs (w : World) (r : DRow) (e : DictEntry) : Prop := e.hash = (keyN r.2.1).hash w ∧ e.key = .ref r.1 ∧ RelV r.2.2 e.val
/-- the dict at a with these rows -/
def DkAt (w : World) (a : Addr) (Ls : List DRow) (h : Heap) : Prop := ((a == sysModules) = false ∧ Ls.length ≤ sizeLine ∧ (∀ r ∈ Ls, isKeyB r.2.1 = true) ∧ (Ls.map fun r => keyN r.2.1).Nodup) ∧ ∃ o es ep, h.get? a = some o ∧ o.ExactDict ∧ o.data = .dict es ep ∧ Paired (RowIs w) Ls es.toList
def DkO (w : World) (a : Addr) (Ls : List DRow) : HO := .ext (DkAt w a Ls)
mutual
def Rep (K : PySem.W.Frag) (F : Hp) : D → V → Prop
  | .non, v => v = .non
  | .bl b, v => v = .bl b
  | .int i, v => v = .int i
  | .str x, v => v = .str x ∧ SOk x
  | .ty n, v => v = .ty n
  | .ref a, v => v = .ref a
  | .tup ds, v => ∃ a xs, v = .ref a ∧ SqT K F a xs ∧ Reps K F ds xs
  | .lst ds, v => ∃ a xs, v = .ref a ∧ F a = some (.lst xs) ∧ Reps K F ds xs
  | .lsk ds, v => ∃ a xs, v = .ref a ∧ SqL K F a xs ∧ Reps K F ds xs
  | .dct ks ds, v => ∃ a o xs, v = .ref a ∧ F a = some (.frz o (.dK (ks.zip xs))) ∧ KsOk ks ds ∧ Reps K F ds xs
  | .obj c ds, v => ∃ a dx xs, v = .ref a ∧ F a = some (.ins (He.ga K c.nm) dx (c.fs.zip xs)) ∧ ds.length ≤ c.fs.length ∧ Reps K F ds xs
  | .dkd w ks ds, v => ∃ a o Ls, v = .ref a ∧ F a = some (.frz o (DkO w a Ls)) ∧ ks = Ls.map (·.2.1) ∧ Reps K F ks (Ls.map fun r => .ref r.1) ∧ Reps K F ds (Ls.map (·.2.2))
  | .exc a dd ns ds, v => v = .ref a ∧ ∃ xs, F dd = some (.xd (ns.zip xs)) ∧ ns.length = ds.length ∧ Reps K F ds xs
  | .fn f c q, v => v = .ref f ∧ F c = some (LamX.CodeO c q)
def Reps (K : PySem.W.Frag) (F : Hp) : List D → List V → Prop
  | [], xs => xs = []
  | d :: ds, xs => ∃ x r, xs = x :: r ∧ Rep K F d x ∧ Reps K F ds r
end
theorem Same.seqT {K : PySem.W.Frag} {H H' : Hp} {a : Addr} {xs : List V} (e : Same H H') (h : SqT K H a xs) : SqT K H' a xs := by
  rcases h with (h | ⟨o, h⟩) | h
  · exact .inl (.inl (e _ _ h))
  · exact .inl (.inr ⟨o, e _ _ h⟩)
  · exact .inr h
section
variable {K : PySem.W.Frag} {F F' : Hp}
mutual
theorem Rep.mono (s : Same F F') : ∀ {d : D} {v : V}, Rep K F d v → Rep K F' d v
  | .non, _, h => h
  | .bl _, _, h => h
  | .int _, _, h => h
  | .str _, _, h => h
  | .ty _, _, h => h
  | .ref _, _, h => h
  | .tup ds, _, ⟨a, xs, e, q, r⟩ => ⟨a, xs, e, Same.seqT s q, Reps.mono s r⟩
  | .lst ds, _, ⟨a, xs, e, q, r⟩ => ⟨a, xs, e, s _ _ q, Reps.mono s r⟩
  | .lsk ds, _, ⟨a, xs, e, q, r⟩ => ⟨a, xs, e, s.seq q, Reps.mono s r⟩
  | .dct ks ds, _, ⟨a, o, xs, e, q, l, r⟩ => ⟨a, o, xs, e, s _ _ q, l, Reps.mono s r⟩
  | .obj c ds, _, ⟨a, o, xs, e, q, l, r⟩ => ⟨a, o, xs, e, s _ _ q, l, Reps.mono s r⟩
  | .dkd w ks ds, _, ⟨a, o, Ls, e, q, l, r1, r2⟩ => ⟨a, o, Ls, e, s _ _ q, l, Reps.mono s r1, Reps.mono s r2⟩
  | .exc a dd ns ds, _, ⟨e, xs, q, l, r⟩ => ⟨e, xs, s _ _ q, l, Reps.mono s r⟩
  | .fn f c q, _, ⟨e, h⟩ => ⟨e, s _ _ h⟩
theorem Reps.mono (s : Same F F') : ∀ {ds : List D} {vs : List V}, Reps K F ds vs → Reps K F' ds vs
  | [], _, h => h
  | d :: ds, _, ⟨x, r, e, h1, h2⟩ => ⟨x, r, e, Rep.mono s h1, Reps.mono s h2⟩
end
theorem Reps.length : ∀ {ds : List D} {vs : List V}, Reps K F ds vs → ds.length = vs.length
  | [], _, h => by cases h; rfl
  | d :: ds, _, ⟨x, r, e, h1, h2⟩ => by subst e; simp [Reps.length h2]
theorem Reps.append : ∀ {ds es : List D} {vs ws : List V}, Reps K F ds vs → Reps K F es ws → Reps K F (ds ++ es) (vs ++ ws)
  | [], _, _, _, h, h' => by cases h; exact h'
  | d :: ds, es, _, ws, ⟨x, r, e, h1, h2⟩, h' => by subst e; exact ⟨x, r ++ ws, rfl, h1, Reps.append h2 h'⟩
theorem Reps.one {d : D} {v : V} (h : Rep K F d v) : Reps K F [d] [v] := ⟨v, [], rfl, h, rfl⟩
theorem Reps.take : ∀ {ds : List D} {vs : List V} (n : Nat), Reps K F ds vs → Reps K F (ds.take n) (vs.take n)
  | _, _, 0, _ => by simp [Reps]
  | [], _, _ + 1, h => by cases h; simp [Reps]
  | d :: ds, _, n + 1, ⟨x, r, e, h1, h2⟩ => by subst e; exact ⟨x, r.take n, rfl, h1, Reps.take n h2⟩
theorem Reps.drop : ∀ {ds : List D} {vs : List V} (n : Nat), Reps K F ds vs → Reps K F (ds.drop n) (vs.drop n)
  | _, _, 0, h => h
  | [], _, _ + 1, h => by cases h; simp [Reps]
  | d :: ds, _, n + 1, ⟨x, r, e, h1, h2⟩ => by subst e; exact Reps.drop n h2
theorem Reps.get : ∀ {ds : List D} {vs : List V} {i : Nat} {d : D}, Reps K F ds vs → ds[i]? = some d → ∃ v, vs[i]? = some v ∧ Rep K F d v
  | [], _, _, _, _, h => by simp at h
  | d :: ds, _, 0, _, ⟨x, r, e, h1, h2⟩, h => by subst e; simp at h; subst h; exact ⟨x, rfl, h1⟩
  | d :: ds, _, i + 1, _, ⟨x, r, e, h1, h2⟩, h => by
    subst e
    obtain ⟨v, hv, hr⟩ := Reps.get (i := i) h2 (by simpa using h)
    exact ⟨v, by simpa using hv, hr⟩
theorem Reps.set : ∀ {ds : List D} {vs : List V} {d : D} {v : V} (i : Nat), Rep K F d v → Reps K F ds vs → Reps K F (ds.set i d) (vs.set i v)
  | [], _, _, _, _, _, h => by cases h; simp [Reps]
  | _ :: ds, _, _, _, 0, hd, ⟨x, r, e, h1, h2⟩ => by subst e; exact ⟨_, r, rfl, hd, h2⟩
  | _ :: ds, _, _, _, i + 1, hd, ⟨x, r, e, h1, h2⟩ => by subst e; exact ⟨x, _, rfl, h1, Reps.set i hd h2⟩
theorem Reps.reverse : ∀ {ds : List D} {vs : List V}, Reps K F ds vs → Reps K F ds.reverse vs.reverse
  | [], _, h => by cases h; simp [Reps]
  | d :: ds, _, ⟨x, r, e, h1, h2⟩ => by subst e; simp only [List.reverse_cons]; exact Reps.append (Reps.reverse h2) (Reps.one h1)
theorem Reps.isEmpty : ∀ {ds : List D} {vs : List V}, Reps K F ds vs → ds.isEmpty = vs.isEmpty
  | [], _, h => by cases h; rfl
  | d :: ds, _, ⟨x, r, e, h1, h2⟩ => by subst e; rfl
theorem Reps.ofInts : ∀ (ns : List Int), Reps K F (ns.map D.int) (ns.map V.int)
  | [] => rfl
  | n :: ns => ⟨.int n, _, rfl, rfl, Reps.ofInts ns⟩
theorem Reps.strs : ∀ {zs : List Str} {vs : List V}, Reps K F (zs.map D.str) vs → vs = zs.map V.str
  | [], _, h => h
  | n :: ns, _, ⟨x, r, e, h1, h2⟩ => by subst e; rw [Reps.strs h2, show x = V.str n from h1.1]; rfl
theorem Reps.bls : ∀ {zs : List Bool} {vs : List V}, Reps K F (zs.map D.bl) vs → vs = zs.map V.bl
  | [], _, h => h
  | n :: ns, _, ⟨x, r, e, h1, h2⟩ => by subst e; rw [Reps.bls h2, show x = V.bl n from h1]; rfl
end
def findK : List L2.Key → List D → L2.Key → Option D
  | k :: ks, d :: ds, j => if k = j then some d else findK ks ds j
  | _, _, _ => none
/-- a table with one row set: in its place, or at the end -/
def setK (ks : List L2.Key) (ds : List D) (j : L2.Key) (e : D) : List D := if (ks.any fun k => decide (k = j)) = true then List.zipWith (fun k d => if k = j then e else d) ks ds else ds ++ [e]
def addK (ks : List L2.Key) (j : L2.Key) : List L2.Key := if (ks.any fun k => decide (k = j)) = true then ks else ks ++ [j]
theorem isEmpty_zip {α β : Type} {xs : List α} {ys : List β} (h : xs.length = ys.length) : (xs.zip ys).isEmpty = xs.isEmpty := by
  cases xs <;> cases ys <;> simp at h ⊢
theorem findK_some {K : PySem.W.Frag} {F : Hp} : ∀ {ks : List L2.Key} {ds : List D} {xs : List V} {j : L2.Key}, ks.length = ds.length → Reps K F ds xs →
    (∀ d, findK ks ds j = some d → ∃ v, valV (ks.zip xs) j = some v ∧ Rep K F d v) ∧ (findK ks ds j = none → valV (ks.zip xs) j = none)
  | [], ds, xs, j, _, _ => ⟨fun d h => by simp [findK] at h, fun _ => rfl⟩
  | k :: ks, [], xs, j, h, _ => by simp at h
  | k :: ks, d :: ds, _, j, h, ⟨x, r, e, h1, h2⟩ => by
    subst e
    obtain ⟨i1, i2⟩ := findK_some (j := j) (by simpa using h) h2
    by_cases hk : k = j
    · refine ⟨fun g hg => ?_, fun hg => ?_⟩
      · simp only [findK, if_pos hk, Option.some.injEq] at hg
        exact ⟨x, valV_pos (p := (k, x)) hk, hg ▸ h1⟩
      · simp [findK, if_pos hk] at hg
    · refine ⟨fun g hg => ?_, fun hg => ?_⟩
      · simp only [findK, if_neg hk] at hg
        obtain ⟨v, a, b⟩ := i1 g hg
        exact ⟨v, by rw [List.zip_cons_cons, valV_neg (p := (k, x)) hk]; exact a, b⟩
      · simp only [findK, if_neg hk] at hg
        rw [List.zip_cons_cons, valV_neg (p := (k, x)) hk]; exact i2 hg
theorem setK_len {ks : List L2.Key} {ds : List D} {j : L2.Key} {e : D} (h : ks.length = ds.length) : (addK ks j).length = (setK ks ds j e).length := by
  unfold addK setK
  split
  · rw [List.length_zipWith, ← h, Nat.min_self]
  · simp [h]
theorem any_zip {k : L2.Key} : ∀ {ks : List L2.Key} {xs : List V}, ks.length = xs.length → ((ks.zip xs).any fun kv => decide (kv.1 = k)) = ks.any fun j => decide (j = k)
  | [], _, _ => by simp
  | _ :: _, [], h => by simp at h
  | j :: ks, x :: xs, h => by simp [any_zip (ks := ks) (xs := xs) (by simpa using h)]
theorem setK_zip {K : PySem.W.Frag} {F : Hp} {ks : List L2.Key} {ds : List D} {xs : List V} {j : L2.Key} {e : D} {v : V} (h : ks.length = ds.length) (r : Reps K F ds xs) (r1 : Rep K F e v) :
    ∃ ys, putK (ks.zip xs) j v = (addK ks j).zip ys ∧ Reps K F (setK ks ds j e) ys := by
  have hx : ks.length = xs.length := h.trans r.length
  unfold putK addK setK
  rw [any_zip hx]
  split
  · have key : ∀ {ks : List L2.Key} {ds : List D} {xs : List V}, ks.length = ds.length → Reps K F ds xs → ∃ ys, ((ks.zip xs).map fun kv => if kv.1 = j then (kv.1, v) else kv) = ks.zip ys ∧ Reps K F (List.zipWith (fun k d => if k = j then e else d) ks ds) ys := by
      intro ks
      induction ks with
      | nil => intro ds xs _ _; exact ⟨[], rfl, rfl⟩
      | cons k ks ih =>
        intro ds xs h r
        cases ds with
        | nil => simp at h
        | cons d ds =>
          obtain ⟨x, rr, rfl, h1, h2⟩ := r
          obtain ⟨ys, e1, e2⟩ := ih (by simpa using h) h2
          by_cases hk : k = j
          · exact ⟨v :: ys, by rw [List.zip_cons_cons, List.map_cons, e1, if_pos (show (k, x).1 = j from hk)]; rfl, v, ys, rfl, by show Rep K F (if k = j then e else d) v; rw [if_pos hk]; exact r1, e2⟩
          · exact ⟨x :: ys, by rw [List.zip_cons_cons, List.map_cons, e1, if_neg (show ¬ (k, x).1 = j from hk)]; rfl, x, ys, rfl, by show Rep K F (if k = j then e else d) x; rw [if_neg hk]; exact h1, e2⟩
    exact key h r
  · exact ⟨xs ++ [v], by rw [List.zip_append hx]; rfl, r.append (Reps.one r1)⟩
def keyD : D → Option L2.Key
  | .int i => some (.inl i)
  | .str x => some (.inr x)
  | _ => none
theorem keyD_ok {K : PySem.W.Frag} {F : Hp} {d : D} {k : L2.Key} {v : V} (r : Rep K F d v) (h : keyD d = some k) : v = kV k := by
  cases d with
  | int i => cases h; exact r
  | str x => cases h; exact r.1
  | _ => cases h
theorem keyD_sok {K : PySem.W.Frag} {F : Hp} {d : D} {k : L2.Key} {v : V} (r : Rep K F d v) (h : keyD d = some k) : ∀ x, Sum.inr x = k → SOk x := by
  cases d with
  | int i => cases h; intro x e; cases e
  | str x => cases h; intro y e; cases e; exact r.2
  | _ => cases h
theorem KsOk.set {ks : List L2.Key} {ds : List D} {j : L2.Key} {e : D} (h : KsOk ks ds) (hj : ∀ x, Sum.inr x = j → SOk x) : KsOk (addK ks j) (setK ks ds j e) := by
  refine ⟨setK_len h.1, fun x hx => ?_⟩
  unfold addK at hx
  split at hx
  · exact h.2 x hx
  · rcases List.mem_append.mp hx with hx | hx
    · exact h.2 x hx
    · exact hj x (List.mem_singleton.mp hx)
/-- an object that may change, as it is tracked at p -/
def RepO (K : PySem.W.Frag) (F : Hp) (p : Addr) : MO → HO → Prop
  | .lst ds, u => ∃ xs, u = .lst xs ∧ Reps K F ds xs
  | .dct ks ds, u => ∃ xs, u = .dK (ks.zip xs) ∧ KsOk ks ds ∧ Reps K F ds xs
  | .ins c ds, u => ∃ dx xs, u = .ins (He.ga K c.nm) dx (c.fs.zip xs) ∧ ds.length ≤ c.fs.length ∧ Reps K F ds xs
  | .dkd w ks ds, u => ∃ Ls, u = DkO w p Ls ∧ ks = Ls.map (·.2.1) ∧ Reps K F ks (Ls.map fun r => .ref r.1) ∧ Reps K F ds (Ls.map (·.2.2))
  | .tbl q, u => ∃ ps, u = .tbl ps ∧ TriplesOk ps.toList ∧ ∀ (pos : Pos) (cv : Value), codeAmong pos ps.toList = some cv → ∃ c, cv = .ref c ∧ F c = some (LamX.CodeO c q)
theorem RepO.mono {K : PySem.W.Frag} {F F' : Hp} {p : Addr} (s : Same F F') : ∀ {o : MO} {u : HO}, RepO K F p o u → RepO K F' p o u
  | .lst _, _, ⟨xs, e, r⟩ => ⟨xs, e, r.mono s⟩
  | .dct _ _, _, ⟨xs, e, l, r⟩ => ⟨xs, e, l, r.mono s⟩
  | .ins _ _, _, ⟨dx, xs, e, l, r⟩ => ⟨dx, xs, e, l, r.mono s⟩
  | .dkd _ _ _, _, ⟨Ls, e, l, r1, r2⟩ => ⟨Ls, e, l, r1.mono s, r2.mono s⟩
  | .tbl _, _, ⟨ps, e, l, r⟩ => ⟨ps, e, l, fun pos cv h => by
    obtain ⟨c, h1, h2⟩ := r pos cv h
    exact ⟨c, h1, s _ _ h2⟩⟩
/-- the heap is parted into F (frozen), M (may change), R (another's, kept as it is), and what nobody asks for -/
structure At (K : PySem.W.Frag) (R F : Hp) (M : Mp) (H : Hp) : Prop where
  fz : Same F H
  mu : ∀ a o, M a = some o → F a = none ∧ ∃ u, H a = some u ∧ RepO K F a o u
  fr : ∀ a o, R a = some o → F a = none ∧ M a = none ∧ H a = some o
section
variable {K : PySem.W.Frag} {R F F' : Hp} {M : Mp} {H : Hp} {p : Addr}
theorem At.freeF (a : At K R F M H) (h : H p = none) : F p = none := by
  cases e : F p with
  | none => rfl
  | some o => rw [a.fz _ _ e] at h; cases h
theorem At.freeM (a : At K R F M H) (h : H p = none) : M p = none := by
  cases e : M p with
  | none => rfl
  | some o => obtain ⟨_, u, q, _⟩ := a.mu _ _ e; rw [q] at h; cases h
theorem At.freeR (a : At K R F M H) (h : H p = none) : R p = none := by
  cases e : R p with
  | none => rfl
  | some o => rw [(a.fr _ _ e).2.2] at h; cases h
theorem same_upd {F : Hp} {o : HO} (h : F p = none) : Same F (upd F p o) := fun b u e => by
  rw [upd_ne (ne_of_none e h)]; exact e
/-- a new frozen object -/
theorem At.laid (a : At K R F M H) (h : H p = none) (o : HO) : At K R (upd F p o) M (upd H p o) ∧ Same F (upd F p o) := by
  have hF := a.freeF h
  refine ⟨⟨fun b u e => ?_, fun b u e => ?_, fun b u e => ?_⟩, same_upd hF⟩
  · by_cases hb : b = p
    · subst hb; rw [upd_same] at e ⊢; exact e
    · rw [upd_ne hb] at e ⊢; exact a.fz _ _ e
  · obtain ⟨h1, v, h2, h3⟩ := a.mu _ _ e
    have hb : b ≠ p := ne_of_none h2 h
    exact ⟨by rw [upd_ne hb]; exact h1, v, by rw [upd_ne hb]; exact h2, h3.mono (same_upd hF)⟩
  · have hb : b ≠ p := ne_of_none e (a.freeR h)
    rw [upd_ne hb, upd_ne hb]; exact a.fr _ _ e
/-- a new object that may change -/
theorem At.born (a : At K R F M H) (h : H p = none) {o : MO} {u : HO} (r : RepO K F p o u) : At K R F (mupd M p o) (upd H p u) := by
  refine ⟨fun b v e => ?_, fun b v e => ?_, fun b v e => ?_⟩
  · have hb : b ≠ p := fun z => by subst z; rw [a.freeF h] at e; cases e
    rw [upd_ne hb]; exact a.fz _ _ e
  · by_cases hb : b = p
    · subst hb; rw [mupd_same] at e; cases e; exact ⟨a.freeF h, u, upd_same, r⟩
    · rw [mupd_ne hb] at e; rw [upd_ne hb]; exact a.mu _ _ e
  · have hb : b ≠ p := ne_of_none e (a.freeR h)
    rw [upd_ne hb, mupd_ne hb]; exact a.fr _ _ e
/-- a new cell that nobody asks for -/
theorem At.skip (a : At K R F M H) (h : H p = none) (u : HO) : At K R F M (upd H p u) := by
  refine ⟨fun b v e => ?_, fun b v e => ?_, fun b v e => ?_⟩
  · have hb : b ≠ p := fun z => by subst z; rw [a.freeF h] at e; cases e
    rw [upd_ne hb]; exact a.fz _ _ e
  · have hb : b ≠ p := fun z => by subst z; rw [a.freeM h] at e; cases e
    rw [upd_ne hb]; exact a.mu _ _ e
  · have hb : b ≠ p := fun z => by subst z; rw [a.freeR h] at e; cases e
    rw [upd_ne hb]; exact a.fr _ _ e
/-- an object changes -/
theorem At.wrote (a : At K R F M H) {o' o : MO} {u : HO} (h : M p = some o') (r : RepO K F p o u) : At K R F (mupd M p o) (upd H p u) := by
  obtain ⟨hF, _⟩ := a.mu _ _ h
  refine ⟨fun b v e => ?_, fun b v e => ?_, fun b v e => ?_⟩
  · have hb : b ≠ p := fun z => by subst z; rw [hF] at e; cases e
    rw [upd_ne hb]; exact a.fz _ _ e
  · by_cases hb : b = p
    · subst hb; rw [mupd_same] at e; cases e; exact ⟨hF, u, upd_same, r⟩
    · rw [mupd_ne hb] at e; rw [upd_ne hb]; exact a.mu _ _ e
  · have hb : b ≠ p := fun z => by subst z; rw [(a.fr _ _ e).2.1] at h; cases h
    rw [upd_ne hb, mupd_ne hb]; exact a.fr _ _ e
/-- an object is frozen -/
theorem At.freeze (a : At K R F M H) {o : MO} (h : M p = some o) : ∃ u, RepO K F p o u ∧ At K R (upd F p u) (mdel M p) H ∧ Same F (upd F p u) := by
  obtain ⟨hF, u, hH, r⟩ := a.mu _ _ h
  refine ⟨u, r, ⟨fun b v e => ?_, fun b v e => ?_, fun b v e => ?_⟩, same_upd hF⟩
  · by_cases hb : b = p
    · subst hb; rw [upd_same] at e; cases e; exact hH
    · rw [upd_ne hb] at e; exact a.fz _ _ e
  · have hb : b ≠ p := fun z => by subst z; rw [mdel_same] at e; cases e
    rw [mdel_ne hb] at e
    obtain ⟨h1, v, h2, h3⟩ := a.mu _ _ e
    exact ⟨by rw [upd_ne hb]; exact h1, v, h2, h3.mono (same_upd hF)⟩
  · have hb : b ≠ p := fun z => by subst z; rw [(a.fr _ _ e).2.1] at h; cases h
    rw [upd_ne hb, mdel_ne hb]; exact a.fr _ _ e
/-- an object is frozen, and its cell is written anew -/
theorem At.freezeAs (a : At K R F M H) {o : MO} (h : M p = some o) (u' : HO) : At K R (upd F p u') (mdel M p) (upd H p u') ∧ Same F (upd F p u') := by
  obtain ⟨hF, u, hH, r⟩ := a.mu _ _ h
  refine ⟨⟨fun b v e => ?_, fun b v e => ?_, fun b v e => ?_⟩, same_upd hF⟩
  · by_cases hb : b = p
    · subst hb; rw [upd_same] at e ⊢; exact e
    · rw [upd_ne hb] at e ⊢; exact a.fz _ _ e
  · have hb : b ≠ p := fun z => by subst z; rw [mdel_same] at e; cases e
    rw [mdel_ne hb] at e
    obtain ⟨h1, v, h2, h3⟩ := a.mu _ _ e
    exact ⟨by rw [upd_ne hb]; exact h1, v, by rw [upd_ne hb]; exact h2, h3.mono (same_upd hF)⟩
  · have hb : b ≠ p := fun z => by subst z; rw [(a.fr _ _ e).2.1] at h; cases h
    rw [upd_ne hb, mdel_ne hb, upd_ne hb]; exact a.fr _ _ e
/-- a cell that nobody has becomes another's -/
theorem At.lend (a : At K R F M H) (h : H p = none) (u : HO) : At K (upd R p u) F M (upd H p u) := by
  refine ⟨fun b v e => ?_, fun b v e => ?_, fun b v e => ?_⟩
  · have hb : b ≠ p := ne_of_none e (a.freeF h)
    rw [upd_ne hb]; exact a.fz _ _ e
  · have hb : b ≠ p := fun z => by subst z; rw [a.freeM h] at e; cases e
    rw [upd_ne hb]; exact a.mu _ _ e
  · by_cases hb : b = p
    · subst hb; rw [upd_same] at e ⊢; exact ⟨a.freeF h, a.freeM h, e⟩
    · rw [upd_ne hb] at e ⊢; exact a.fr _ _ e
/-- .. and changes -/
theorem At.relend {u : HO} (a : At K (upd R p u) F M H) (u' : HO) : At K (upd R p u') F M (upd H p u') := by
  obtain ⟨h1, h2, h3⟩ := a.fr p u upd_same
  refine ⟨fun b v e => ?_, fun b v e => ?_, fun b v e => ?_⟩
  · have hb : b ≠ p := ne_of_none e h1
    rw [upd_ne hb]; exact a.fz _ _ e
  · have hb : b ≠ p := fun z => by subst z; rw [h2] at e; cases e
    rw [upd_ne hb]; exact a.mu _ _ e
  · by_cases hb : b = p
    · subst hb; rw [upd_same] at e ⊢; exact ⟨h1, h2, e⟩
    · rw [upd_ne hb] at e ⊢; exact a.fr _ _ (by rw [upd_ne hb]; exact e)
/-- .. and is frozen -/
theorem At.takeF {u : HO} (a : At K (upd R p u) F M H) (hR : R p = none) : At K R (upd F p u) M H ∧ Same F (upd F p u) := by
  obtain ⟨h1, h2, h3⟩ := a.fr p u upd_same
  refine ⟨⟨fun b v e => ?_, fun b v e => ?_, fun b v e => ?_⟩, same_upd h1⟩
  · by_cases hb : b = p
    · subst hb; rw [upd_same] at e; cases e; exact h3
    · rw [upd_ne hb] at e; exact a.fz _ _ e
  · have hb : b ≠ p := fun z => by subst z; rw [h2] at e; cases e
    obtain ⟨z1, v, z2, z3⟩ := a.mu _ _ e
    exact ⟨by rw [upd_ne hb]; exact z1, v, z2, z3.mono (same_upd h1)⟩
  · have hb : b ≠ p := ne_of_none e hR
    rw [upd_ne hb]; exact a.fr _ _ (by rw [upd_ne hb]; exact e)
/-- .. or stands as an object that may change -/
theorem At.takeM {u : HO} {o : MO} (a : At K (upd R p u) F M H) (hR : R p = none) (r : RepO K F p o u) : At K R F (mupd M p o) H := by
  obtain ⟨h1, h2, h3⟩ := a.fr p u upd_same
  refine ⟨a.fz, fun b v e => ?_, fun b v e => ?_⟩
  · by_cases hb : b = p
    · subst hb; rw [mupd_same] at e; cases e; exact ⟨h1, u, h3, r⟩
    · rw [mupd_ne hb] at e; exact a.mu _ _ e
  · have hb : b ≠ p := ne_of_none e hR
    rw [mupd_ne hb]; exact a.fr _ _ (by rw [upd_ne hb]; exact e)
end
abbrev DEnv := List (Option D)
structure EnvR (K : PySem.W.Frag) (F : Hp) (σ : L2.St) (env : DEnv) : Prop where
  len : σ.length = env.length
  get : ∀ (i : Nat) (d : D), env[i]? = some (some d) → ∃ v, σ[i]? = some (some v) ∧ Rep K F d v
section
variable {K : PySem.W.Frag} {F F' : Hp} {σ : L2.St} {env : DEnv}
theorem EnvR.mono (s : Same F F') (e : EnvR K F σ env) : EnvR K F' σ env := ⟨e.len, fun i d h => by
  obtain ⟨v, h1, h2⟩ := e.get i d h
  exact ⟨v, h1, h2.mono s⟩⟩
theorem EnvR.set (e : EnvR K F σ env) {d : D} {v : V} (i : Nat) (r : Rep K F d v) : EnvR K F (σ.set i (some v)) (env.set i (some d)) := by
  refine ⟨by simp [e.len], fun j g h => ?_⟩
  by_cases hj : i = j
  · subst hj
    by_cases hi : i < env.length
    · rw [List.getElem?_set_self hi] at h
      cases h
      exact ⟨v, List.getElem?_set_self (by rw [e.len]; exact hi), r⟩
    · rw [List.getElem?_eq_none (by simpa using hi)] at h; cases h
  · rw [List.getElem?_set_ne hj] at h ⊢
    exact e.get j g h
theorem EnvR.forget (e : EnvR K F σ env) (i : Nat) : EnvR K F (σ.set i none) (env.set i none) := by
  refine ⟨by simp [e.len], fun j g h => ?_⟩
  by_cases hj : i = j
  · subst hj
    by_cases hi : i < env.length
    · rw [List.getElem?_set_self hi] at h; cases h
    · rw [List.getElem?_eq_none (by simpa using hi)] at h; cases h
  · rw [List.getElem?_set_ne hj] at h ⊢
    exact e.get j g h
end
def wipeD (env : DEnv) : List Nat → DEnv
  | [] => env
  | v :: vs => (wipeD env vs).set v none
theorem EnvR.wipe {K : PySem.W.Frag} {F : Hp} {σ : L2.St} {env : DEnv} (e : EnvR K F σ env) : ∀ vs : List Nat, EnvR K F (wipe σ vs) (wipeD env vs)
  | [] => e
  | v :: vs => (EnvR.wipe e vs).forget v
/-- two ways -/
def brn (c : Bool) (A B : Prop) : Prop := match c with
  | true => A
  | false => B
theorem brn_t {A B : Prop} : brn true A B = A := rfl
theorem brn_f {A B : Prop} : brn false A B = B := rfl
theorem brn_by {c : Bool} {A B : Prop} (h1 : c = true → A) (h2 : c = false → B) : brn c A B := by
  cases c with
  | true => exact h1 rfl
  | false => exact h2 rfl
abbrev DK := D → Mp → Prop
abbrev DE := DEnv → Mp → DK → Prop
abbrev DT := DEnv → Mp → (Bool → Mp → Prop) → Prop
abbrev DA := DEnv → Mp → (List D → Mp → Prop) → Prop
structure DEnds where
  nx : DEnv → Mp → Prop
  rt : DK
  bk : DEnv → Mp → Prop := fun _ _ => False
  ct : DEnv → Mp → Prop := fun _ _ => False
abbrev DS := DEnds → DEnv → Mp → Prop
/-- what is wanted of a value, by data -/
def KD (K : PySem.W.Frag) (R F : Hp) (Qd : DK) (Q : VK) : Prop := ∀ F' H' M' d v, Same F F' → At K R F' M' H' → Rep K F' d v → Qd d M' → Q v H'
def KT (K : PySem.W.Frag) (R F : Hp) (Qd : Bool → Mp → Prop) (Q : Bool → Hp → Prop) : Prop := ∀ F' H' M' b, Same F F' → At K R F' M' H' → Qd b M' → Q b H'
def KA (K : PySem.W.Frag) (R F : Hp) (n : Nat) (Qd : List D → Mp → Prop) (Q : List V → Hp → Prop) : Prop := ∀ F' H' M' ds vs, Same F F' → At K R F' M' H' → Reps K F' ds vs → ds.length = n → Qd ds M' → Q vs H'
def KN (K : PySem.W.Frag) (R F : Hp) (Qd : DEnv → Mp → Prop) (Q : L2.St → Hp → Prop) : Prop := ∀ F' H' M' env σ, Same F F' → At K R F' M' H' → EnvR K F' σ env → Qd env M' → Q σ H'
theorem KD.mono {K : PySem.W.Frag} {R F F1 : Hp} {Qd : DK} {Q : VK} (k : KD K R F Qd Q) (s : Same F F1) : KD K R F1 Qd Q := fun F' H' M' d v s' => k F' H' M' d v (s.trans s')
theorem KT.mono {K : PySem.W.Frag} {R F F1 : Hp} {Qd : Bool → Mp → Prop} {Q : Bool → Hp → Prop} (k : KT K R F Qd Q) (s : Same F F1) : KT K R F1 Qd Q := fun F' H' M' d s' => k F' H' M' d (s.trans s')
theorem KA.mono {K : PySem.W.Frag} {R F F1 : Hp} {n : Nat} {Qd : List D → Mp → Prop} {Q : List V → Hp → Prop} (k : KA K R F n Qd Q) (s : Same F F1) : KA K R F1 n Qd Q := fun F' H' M' d v s' => k F' H' M' d v (s.trans s')
theorem KN.mono {K : PySem.W.Frag} {R F F1 : Hp} {Qd : DEnv → Mp → Prop} {Q : L2.St → Hp → Prop} (k : KN K R F Qd Q) (s : Same F F1) : KN K R F1 Qd Q := fun F' H' M' d v s' => k F' H' M' d v (s.trans s')
structure KE (K : PySem.W.Frag) (R F : Hp) (Dd : DEnds) (D : Ends) : Prop where
  nx : KN K R F Dd.nx D.nx
  rt : KD K R F Dd.rt D.rt
  bk : KN K R F Dd.bk D.bk
  ct : KN K R F Dd.ct D.ct
theorem KE.mono {K : PySem.W.Frag} {R F F1 : Hp} {Dd : DEnds} {D : Ends} (k : KE K R F Dd D) (s : Same F F1) : KE K R F1 Dd D := ⟨k.nx.mono s, k.rt.mono s, k.bk.mono s, k.ct.mono s⟩
def up (K : PySem.W.Frag) (t : DE) : TE := fun σ H Q => ∃ R F env M Qd, At K R F M H ∧ EnvR K F σ env ∧ t env M Qd ∧ KD K R F Qd Q
def upT (K : PySem.W.Frag) (t : DT) : TT := fun σ H Q => ∃ R F env M Qd, At K R F M H ∧ EnvR K F σ env ∧ t env M Qd ∧ KT K R F Qd Q
def upA (K : PySem.W.Frag) (n : Nat) (t : DA) : TA := fun σ H Q => ∃ R F env M Qd, At K R F M H ∧ EnvR K F σ env ∧ t env M Qd ∧ KA K R F n Qd Q
def upS (K : PySem.W.Frag) (t : DS) : TS := fun D σ H => ∃ R F env M Dd, At K R F M H ∧ EnvR K F σ env ∧ t Dd env M ∧ KE K R F Dd D
abbrev PDE (X : Cx) (e : Expr) (t : DE) : Prop := PE X e (up X.K t)
abbrev PDT (X : Cx) (e : Expr) (t : DT) : Prop := PT X e (upT X.K t)
abbrev PDA (X : Cx) (es : List Expr) (t : DA) : Prop := PA X es (upA X.K es.length t)
abbrev PDS (X : Cx) (st : Stmt) (t : DS) : Prop := PS X st (upS X.K t)
abbrev PDSs (X : Cx) (st : List Stmt) (t : DS) : Prop := PSs X st (upS X.K t)
section
variable {X : Cx}
theorem pe_imp {e : Expr} {t t' : TE} (h : PE X e t) (i : ∀ σ H Q, t' σ H Q → t σ H Q) : PE X e t' := ⟨fun pins s σ H Q I q => h.run pins s σ H Q I (i _ _ _ q)⟩
theorem pt_imp {e : Expr} {t t' : TT} (h : PT X e t) (i : ∀ σ H Q, t' σ H Q → t σ H Q) : PT X e t' := ⟨fun pins s σ H Q I q => h.run pins s σ H Q I (i _ _ _ q)⟩
theorem pw_imp {e : Expr} {t t' : TT} (h : PW X e t) (i : ∀ σ H Q, t' σ H Q → t σ H Q) : PW X e t' := ⟨fun wh pins s σ H Q I q => h.run wh pins s σ H Q I (i _ _ _ q)⟩
theorem pa_imp {es : List Expr} {t t' : TA} (h : PA X es t) (i : ∀ σ H Q, t' σ H Q → t σ H Q) : PA X es t' := ⟨fun pos pins s σ H Q I q => h.run pos pins s σ H Q I (i _ _ _ q)⟩
theorem ps_imp {st : Stmt} {t t' : TS} (h : PS X st t) (i : ∀ D σ H, t' D σ H → t D σ H) : PS X st t' := ⟨fun pins s σ H D I q => h.run pins s σ H D I (i _ _ _ q)⟩
theorem pss_imp {st : List Stmt} {t t' : TS} (h : PSs X st t) (i : ∀ D σ H, t' D σ H → t D σ H) : PSs X st t' := ⟨fun pins s σ H D I q => h.run pins s σ H D I (i _ _ _ q)⟩
def dVar (i : Nat) : DE := fun env M Q => match env[i]? with
  | some (some d) => Q d M
  | _ => False
theorem dv (i : Nat) {x : Str} {pos : Pos} (hN : X.N[i]? = some x := by rfl) (hv : Vis X.env.scope x := by first | exact Or.inl rfl | exact Or.inr (Or.inl rfl) | exact Or.inr (Or.inr rfl)) (hd : (x == ("__debug__" : Str)) = false := by decide)
    (hcd : (x == ("__classdict__" : Str)) = false := by decide) : PDE X (.Name x pos) (dVar i) := by
  refine pe_imp (pe_var hN hv hd hcd) fun σ H Q ⟨R, F, env, M, Qd, a, e, h, k⟩ => ?_
  unfold dVar at h
  split at h
  · rename_i d hi
    obtain ⟨v, h1, h2⟩ := e.get i d hi
    exact ⟨v, h1, k F H M d v (Same.refl F) a h2 h⟩
  · exact h.elim
def dC (d : D) : DE := fun _ M Q => Q d M
theorem upC {K : PySem.W.Frag} {d : D} {v : V} (hr : ∀ F, Rep K F d v) : ∀ σ H Q, up K (dC d) σ H Q → tC v σ H Q := fun σ H Q ⟨R, F, env, M, Qd, a, e, h, k⟩ => k F H M d v (Same.refl F) a (hr F) h
theorem pd_int {i j pos} : PDE X (.Constant (.int i) j pos) (dC (.int i)) := pe_imp pe_int (upC fun _ => rfl)
theorem pd_bl {b j pos} : PDE X (.Constant (.bool b) j pos) (dC (.bl b)) := pe_imp pe_bl (upC fun _ => rfl)
theorem pd_non {j pos} : PDE X (.Constant .none j pos) (dC .non) := pe_imp pe_non (upC fun _ => rfl)
theorem pd_str {x j pos} (h : SOk x := by decide +kernel) : PDE X (.Constant (.str x) j pos) (dC (.str x)) := pe_imp pe_str (upC fun _ => ⟨rfl, h⟩)
/-- a module's constant -/
theorem pd_glob {x : Str} {d : D} {v : V} {u : Value} {pos : Pos} (hg : Gl X x) (hm : X.mg x = some u) (r : RelV v u) (hr : ∀ F, Rep X.K F d v) (hd : (x == ("__debug__" : Str)) = false := by decide) : PDE X (.Name x pos) (dC d) := pe_imp (pe_glob hg hm r hd) (upC hr)
theorem pd_globI {x : Str} {i : Int} {t : Tok} {pos : Pos} (hg : Gl X x) (hm : X.mg x = some (.int i t)) (hd : (x == ("__debug__" : Str)) = false := by decide) : PDE X (.Name x pos) (dC (.int i)) := pd_glob (v := .int i) hg hm ⟨t, rfl⟩ (fun _ => rfl) hd
theorem pd_globS {x z : Str} {t : Tok} {pos : Pos} (hg : Gl X x) (hm : X.mg x = some (.str z t)) (hz : SOk z := by decide +kernel) (hd : (x == ("__debug__" : Str)) = false := by decide) : PDE X (.Name x pos) (dC (.str z)) := pd_glob (v := .str z) hg hm ⟨t, rfl⟩ (fun _ => ⟨rfl, hz⟩) hd
abbrev R2D := D → D → Mp → DK → Prop
def dBin (r : R2D) (ta tb : DE) : DE := fun env M Q => ta env M fun x M1 => tb env M1 fun y M2 => r x y M2 Q
/-- a rule on values serves a rule on data -/
def Serves2 (K : PySem.W.Frag) (r : R2D) (rV : R2) : Prop := ∀ R F M H d e x y Qd Q, At K R F M H → Rep K F d x → Rep K F e y → r d e M Qd → KD K R F Qd Q → rV x y H Q
theorem up_bin {K : PySem.W.Frag} {r : R2D} {rV : R2} {ta tb : DE} (hs : Serves2 K r rV) : ∀ σ H Q, up K (dBin r ta tb) σ H Q → tOp rV (up K ta) (up K tb) σ H Q := fun σ H Q ⟨R, F, env, M, Qd, a, e, h, k⟩ =>
  ⟨R, F, env, M, _, a, e, h, fun F1 H1 M1 d v s1 a1 r1 h1 => ⟨R, F1, env, M1, _, a1, e.mono s1, h1, fun F2 H2 M2 d2 v2 s2 a2 r2 h2 => hs R F2 M2 H2 d d2 v v2 Qd Q a2 (r1.mono s2) r2 h2 (k.mono (s1.trans s2))⟩⟩
structure OpD (X : Cx) (f : Value → Value → Sem Value) (r : R2D) : Prop where
  ex : ∃ rV, OpR X f rV ∧ Serves2 X.K r rV
variable {a b c : Expr} {ta tb tc : DE} {pos : Pos}
theorem pd_op {op : Operator} {r : R2D} (ho : OpD X (binaryOp op) r) (ha : PDE X a ta) (hb : PDE X b tb) : PDE X (.BinOp a op b pos) (dBin r ta tb) := by
  obtain ⟨rV, h1, h2⟩ := ho.ex
  exact pe_imp (pe_op h1 ha hb) (up_bin h2)
theorem pd_cmp {op : CmpOp} {r : R2D} (ho : OpD X (compareOp op) r) (ha : PDE X a ta) (hb : PDE X b tb) (hm : behindInMarks op b = false := by first | exact nomark _ | rfl) : PDE X (.Compare a [op] [b] pos) (dBin r ta tb) := by
  obtain ⟨rV, h1, h2⟩ := ho.ex
  exact pe_imp (pe_cmpR h1 ha hb hm) (up_bin h2)
/-- a reading of a truth value as a test -/
def dTest (t : DE) : DT := fun env M Q => t env M fun d M1 => match d with
  | .bl b => Q b M1
  | _ => False
theorem up_test {K : PySem.W.Frag} {t : DE} {tV : TE} (h : ∀ σ H Q, up K t σ H Q → tV σ H Q) : ∀ σ H Q, upT K (dTest t) σ H Q → tTest tV σ H Q := fun σ H Q ⟨R, F, env, M, Qd, a, e, h1, k⟩ => by
  refine h σ H _ ⟨R, F, env, M, _, a, e, h1, fun F' H' M' d v s a' r q => ?_⟩
  cases d with
  | bl b => exact ⟨b, r, k F' H' M' b s a' q⟩
  | _ => exact q.elim
theorem pdt_cmp {op : CmpOp} {r : R2D} (ho : OpD X (compareOp op) r) (ha : PDE X a ta) (hb : PDE X b tb) (hm : behindInMarks op b = false := by first | exact nomark _ | rfl) : PDT X (.Compare a [op] [b] pos) (dTest (dBin r ta tb)) := by
  obtain ⟨rV, h1, h2⟩ := ho.ex
  exact pt_imp (pt_cmpR h1 ha hb hm) (up_test (up_bin h2))
def dChain (r r' : R2D) (ta tb tc : DE) : DE := fun env M Q => ta env M fun x M1 => tb env M1 fun y M2 => r x y M2 fun z M3 => match z with
  | .bl k => brn k (tc env M3 fun w M4 => r' y w M4 Q) (Q (.bl false) M3)
  | _ => False
theorem up_chain {K : PySem.W.Frag} {r r' : R2D} {rV rV' : R2} (hs : Serves2 K r rV) (hs' : Serves2 K r' rV') : ∀ σ H Q, up K (dChain r r' ta tb tc) σ H Q → tChain rV rV' (up K ta) (up K tb) (up K tc) σ H Q := fun σ H Q ⟨R, F, env, M, Qd, a, e, h, k⟩ =>
  ⟨R, F, env, M, _, a, e, h, fun F1 H1 M1 d v s1 a1 r1 h1 => ⟨R, F1, env, M1, _, a1, e.mono s1, h1, fun F2 H2 M2 d2 v2 s2 a2 r2 h2 => by
    refine hs R F2 M2 H2 d d2 v v2 _ _ a2 (r1.mono s2) r2 h2 fun F3 H3 M3 d3 v3 s3 a3 r3 h3 => ?_
    cases d3 with
    | bl b =>
      refine ⟨b, r3, ?_⟩
      change brn b _ _ at h3
      cases b with
      | true =>
        rw [brn_t] at h3; rw [if_pos rfl]
        exact ⟨R, F3, env, M3, _, a3, ((e.mono s1).mono s2).mono s3, h3, fun F4 H4 M4 d4 v4 s4 a4 r4 h4 => hs' R F4 M4 H4 d2 d4 v2 v4 Qd Q a4 (r2.mono (s3.trans s4)) r4 h4 (k.mono (((s1.trans s2).trans s3).trans s4))⟩
      | false =>
        rw [brn_f] at h3; rw [if_neg Bool.false_ne_true]
        exact k F3 H3 M3 (.bl false) (.bl false) ((s1.trans s2).trans s3) a3 (show Rep _ _ (.bl false) _ from rfl) h3
    | _ => exact h3.elim⟩⟩
theorem pd_chain {op op' : CmpOp} {r r' : R2D} (ho : OpD X (compareOp op) r) (ho' : OpD X (compareOp op') r') (ha : PDE X a ta) (hb : PDE X b tb) (hc : PDE X c tc)
    (hm : lastMarks [op, op'] [b, c] = false := by with_unfolding_all rfl) : PDE X (.Compare a [op, op'] [b, c] pos) (dChain r r' ta tb tc) := by
  obtain ⟨rV, h1, h2⟩ := ho.ex
  obtain ⟨rV', h1', h2'⟩ := ho'.ex
  exact pe_imp (pe_chain h1 h1' ha hb hc hm) (up_chain h2 h2')
theorem pdt_chain {op op' : CmpOp} {r r' : R2D} (ho : OpD X (compareOp op) r) (ho' : OpD X (compareOp op') r') (ha : PDE X a ta) (hb : PDE X b tb) (hc : PDE X c tc)
    (hm : lastMarks [op, op'] [b, c] = false := by with_unfolding_all rfl) : PDT X (.Compare a [op, op'] [b, c] pos) (dTest (dChain r r' ta tb tc)) := by
  obtain ⟨rV, h1, h2⟩ := ho.ex
  obtain ⟨rV', h1', h2'⟩ := ho'.ex
  exact pt_imp (pt_chain h1 h1' ha hb hc hm) (up_test (up_chain h2 h2'))
/-- one argument -/
def dUn (r : D → Mp → DK → Prop) (ta : DE) : DE := fun env M Q => ta env M fun x M1 => r x M1 Q
def rNegI : D → Mp → DK → Prop := fun d M Q => match d with
  | .int i => Q (.int (-i)) M
  | _ => False
theorem pd_neg (ha : PDE X a ta) : PDE X (.UnaryOp .USub a pos) (dUn rNegI ta) := by
  refine pe_imp (pe_un un_neg ha) fun σ H Q ⟨R, F, env, M, Qd, a, e, h, k⟩ => ⟨R, F, env, M, _, a, e, h, fun F1 H1 M1 d v s1 a1 r1 h1 => ?_⟩
  cases d with
  | int i => exact ⟨i, r1, k F1 H1 M1 (.int (-i)) _ s1 a1 rfl h1⟩
  | _ => exact h1.elim
def truD (M : Mp) : D → Option Bool
  | .non => some false
  | .bl b => some b
  | .int i => some (i != 0)
  | .str x => some ((x.length : Int) != 0)
  | .tup ds => some (!ds.isEmpty)
  | .lst ds => some (!ds.isEmpty)
  | .ref a => match M a with
    | some (.lst ds) => some (!ds.isEmpty)
    | some (.dct ks _) => some (!ks.isEmpty)
    | _ => none
  | _ => none
def dTru (ta : DE) : DT := fun env M Q => ta env M fun d M1 => match truD M1 d with
  | some b => Q b M1
  | none => False
theorem tru_ok {K : PySem.W.Frag} {R F : Hp} {M : Mp} {H : Hp} (a : At K R F M H) : ∀ {d : D} {v : V} {b : Bool}, Rep K F d v → truD M d = some b → TruV K v H b
  | .non, _, _, r, h => by cases r; cases h; rfl
  | .bl _, _, _, r, h => by cases r; cases h; rfl
  | .int _, _, _, r, h => by cases r; cases h; rfl
  | .str _, _, _, r, h => by obtain ⟨r, z⟩ := r; cases r; cases h; exact ⟨z.1, rfl⟩
  | .tup ds, _, _, ⟨p, xs, e, q, r⟩, h => by
    subst e; cases h; rw [r.isEmpty]; exact .inr (.inl ⟨xs, Same.seqT a.fz q, rfl⟩)
  | .lst ds, _, _, ⟨p, xs, e, q, r⟩, h => by
    subst e; cases h; rw [r.isEmpty]; exact .inl ⟨xs, SqL.of (a.fz _ _ q), rfl⟩
  | .ref p, _, _, r, h => by
    cases r
    simp only [truD] at h
    split at h
    · rename_i ds hm
      cases h
      obtain ⟨_, u, hu, xs, e, r⟩ := a.mu _ _ hm
      subst e
      rw [r.isEmpty]
      exact .inl ⟨xs, SqL.of hu, rfl⟩
    · rename_i ks ds hm
      cases h
      obtain ⟨_, u, hu, xs, e, l, r⟩ := a.mu _ _ hm
      subst e
      refine .inr (.inr ⟨_, hu, ?_⟩)
      rw [isEmpty_zip (by rw [l.1, r.length])]
    · cases h
  | .ty _, _, _, _, h => by cases h
  | .lsk _, _, _, _, h => by cases h
  | .dct _ _, _, _, _, h => by cases h
  | .obj _ _, _, _, _, h => by cases h
  | .dkd _ _ _, _, _, _, h => by cases h
  | .exc _ _ _ _, _, _, _, h => by cases h
  | .fn _ _ _, _, _, _, h => by cases h
theorem pdt (ha : PDE X a ta) (he : ∀ whole, isTrue a X.env whole = (do let v ← whole; standAt a.pos; holding [v] (truthy v)) := by intro _; rfl) : PDT X a (dTru ta) := by
  refine pt_imp (pt_truth ha he) fun σ H Q ⟨R, F, env, M, Qd, a, e, h, k⟩ => ⟨R, F, env, M, _, a, e, h, fun F1 H1 M1 d v s1 a1 r1 h1 => ?_⟩
  split at h1
  · rename_i b hb
    exact ⟨b, tru_ok a1 r1 hb, k F1 H1 M1 b s1 a1 h1⟩
  · exact h1.elim
abbrev PDW (X : Cx) (e : Expr) (t : DT) : Prop := PW X e (upT X.K t)
variable {tA tB : DT} {rest : List Expr}
def dAnd (t u : DT) : DT := fun env M Q => t env M fun c M1 => brn c (u env M1 Q) (Q false M1)
def dOr (t u : DT) : DT := fun env M Q => t env M fun c M1 => brn c (Q true M1) (u env M1 Q)
def dNot (t : DT) : DT := fun env M Q => t env M fun c M1 => Q (!c) M1
theorem pdw_and1 (ha : PDT X a tA) : PDW X (.BoolOp .And [a] pos) tA := pw_and1 ha
theorem pdw_or1 (ha : PDT X a tA) : PDW X (.BoolOp .Or [a] pos) tA := pw_or1 ha
theorem pdw_and (ha : PDT X a tA) (hb : PDW X (.BoolOp .And (b :: rest) pos) tB) : PDW X (.BoolOp .And (a :: b :: rest) pos) (dAnd tA tB) := by
  refine pw_imp (pw_and ha hb) fun σ H Q ⟨R, F, env, M, Qd, a, e, h, k⟩ => ⟨R, F, env, M, _, a, e, h, fun F1 H1 M1 b s1 a1 h1 => ?_⟩
  cases b with
  | true => rw [brn_t] at h1; rw [if_pos rfl]; exact ⟨R, F1, env, M1, Qd, a1, e.mono s1, h1, k.mono s1⟩
  | false => rw [brn_f] at h1; rw [if_neg Bool.false_ne_true]; exact k F1 H1 M1 _ s1 a1 h1
theorem pdw_or (ha : PDT X a tA) (hb : PDW X (.BoolOp .Or (b :: rest) pos) tB) : PDW X (.BoolOp .Or (a :: b :: rest) pos) (dOr tA tB) := by
  refine pw_imp (pw_or ha hb) fun σ H Q ⟨R, F, env, M, Qd, a, e, h, k⟩ => ⟨R, F, env, M, _, a, e, h, fun F1 H1 M1 b s1 a1 h1 => ?_⟩
  cases b with
  | true => rw [brn_t] at h1; rw [if_pos rfl]; exact k F1 H1 M1 _ s1 a1 h1
  | false => rw [brn_f] at h1; rw [if_neg Bool.false_ne_true]; exact ⟨R, F1, env, M1, Qd, a1, e.mono s1, h1, k.mono s1⟩
theorem pdt_not (ha : PDT X a tA) : PDT X (.UnaryOp .Not a pos) (dNot tA) := by
  refine pt_imp (pt_not ha) fun σ H Q ⟨R, F, env, M, Qd, a, e, h, k⟩ => ⟨R, F, env, M, _, a, e, h, fun F1 H1 M1 b s1 a1 h1 => k F1 H1 M1 _ s1 a1 h1⟩
/-- as values -/
def dAndV (ta tb : DE) : DE := fun env M Q => ta env M fun x M1 => match truD M1 x with
  | some c => brn c (tb env M1 Q) (Q x M1)
  | none => False
def dOrV (ta tb : DE) : DE := fun env M Q => ta env M fun x M1 => match truD M1 x with
  | some c => brn c (Q x M1) (tb env M1 Q)
  | none => False
theorem pd_one {op} (h : PDE X a ta) : PDE X (.BoolOp op [a] pos) ta := pe_one h
theorem pd_and (ha : PDE X a ta) (hb : PDE X (.BoolOp .And (b :: rest) pos) tb) : PDE X (.BoolOp .And (a :: b :: rest) pos) (dAndV ta tb) := by
  refine pe_imp (pe_andT ha hb) fun σ H Q ⟨R, F, env, M, Qd, a, e, h, k⟩ => ⟨R, F, env, M, _, a, e, h, fun F1 H1 M1 d v s1 a1 r1 h1 => ?_⟩
  split at h1
  · rename_i c hc
    refine ⟨c, tru_ok a1 r1 hc, ?_⟩
    cases c with
    | true => rw [brn_t] at h1; rw [if_pos rfl]; exact ⟨R, F1, env, M1, Qd, a1, e.mono s1, h1, k.mono s1⟩
    | false => rw [brn_f] at h1; rw [if_neg Bool.false_ne_true]; exact k F1 H1 M1 _ _ s1 a1 r1 h1
  · exact h1.elim
theorem pd_or (ha : PDE X a ta) (hb : PDE X (.BoolOp .Or (b :: rest) pos) tb) : PDE X (.BoolOp .Or (a :: b :: rest) pos) (dOrV ta tb) := by
  refine pe_imp (pe_orT ha hb) fun σ H Q ⟨R, F, env, M, Qd, a, e, h, k⟩ => ⟨R, F, env, M, _, a, e, h, fun F1 H1 M1 d v s1 a1 r1 h1 => ?_⟩
  split at h1
  · rename_i c hc
    refine ⟨c, tru_ok a1 r1 hc, ?_⟩
    cases c with
    | true => rw [brn_t] at h1; rw [if_pos rfl]; exact k F1 H1 M1 _ _ s1 a1 r1 h1
    | false => rw [brn_f] at h1; rw [if_neg Bool.false_ne_true]; exact ⟨R, F1, env, M1, Qd, a1, e.mono s1, h1, k.mono s1⟩
  · exact h1.elim
def dIf (t : DT) (ta tb : DE) : DE := fun env M Q => t env M fun c M1 => brn c (ta env M1 Q) (tb env M1 Q)
theorem pd_if (hc : PDT X c tA) (ha : PDE X a ta) (hb : PDE X b tb) : PDE X (.IfExp c a b pos) (dIf tA ta tb) := by
  refine pe_imp (pe_ifExp hc ha hb) fun σ H Q ⟨R, F, env, M, Qd, a, e, h, k⟩ => ⟨R, F, env, M, _, a, e, h, fun F1 H1 M1 b s1 a1 h1 => ?_⟩
  cases b with
  | true => rw [brn_t] at h1; rw [if_pos rfl]; exact ⟨R, F1, env, M1, Qd, a1, e.mono s1, h1, k.mono s1⟩
  | false => rw [brn_f] at h1; rw [if_neg Bool.false_ne_true]; exact ⟨R, F1, env, M1, Qd, a1, e.mono s1, h1, k.mono s1⟩
def dNil : DA := fun _ M Q => Q [] M
def dCons (ta : DE) (tr : DA) : DA := fun env M Q => ta env M fun x M1 => tr env M1 fun xs M2 => Q (x :: xs) M2
theorem pda_nil : PDA X [] dNil := pa_imp pa_nil fun σ H Q ⟨R, F, env, M, Qd, a, e, h, k⟩ => k F H M [] [] (Same.refl F) a rfl rfl h
theorem pda_cons {es : List Expr} {t : DA} (ha : PDE X a ta) (hr : PDA X es t) (hs : starEach (a :: es) X.env = (false, eval a X.env) :: starEach es X.env := by rfl) : PDA X (a :: es) (dCons ta t) :=
  pa_imp (pa_cons ha hr hs) fun σ H Q ⟨R, F, env, M, Qd, a, e, h, k⟩ => ⟨R, F, env, M, _, a, e, h, fun F1 H1 M1 d v s1 a1 r1 h1 => ⟨R, F1, env, M1, _, a1, e.mono s1, h1, fun F2 H2 M2 ds vs s2 a2 r2 l2 h2 =>
    k F2 H2 M2 (d :: ds) (v :: vs) (s1.trans s2) a2 ⟨v, vs, rfl, r1.mono s2, r2⟩ (by simp [l2]) h2⟩⟩
variable {es : List Expr} {t : DA}
def dTup (t : DA) : DE := fun env M Q => t env M fun ds M1 => Q (.tup ds) M1
def dLst (t : DA) : DE := fun env M Q => t env M fun ds M1 => Q (.lst ds) M1
def dLstM (t : DA) : DE := fun env M Q => t env M fun ds M1 => ∀ p, M1 p = none → Q (.ref p) (mupd M1 p (.lst ds))
theorem tup_new {K : PySem.W.Frag} {R F : Hp} {M : Mp} {H : Hp} {ds : List D} {vs : List V} {Qd : DK} {Q : VK} {p : Addr} (a : At K R F M H) (r : Reps K F ds vs) (k : KD K R F Qd Q) (h : Qd (.tup ds) M) (hp : H p = none) : Q (.ref p) (upd H p (.tup vs)) := by
  obtain ⟨a1, s1⟩ := a.laid hp (.tup vs)
  exact k _ _ M (.tup ds) _ s1 a1 ⟨p, vs, rfl, SqT.of upd_same, r.mono s1⟩ h
theorem lst_new {K : PySem.W.Frag} {R F : Hp} {M : Mp} {H : Hp} {ds : List D} {vs : List V} {Qd : DK} {Q : VK} {p : Addr} (a : At K R F M H) (r : Reps K F ds vs) (k : KD K R F Qd Q) (h : Qd (.lst ds) M) (hp : H p = none) : Q (.ref p) (upd H p (.lst vs)) := by
  obtain ⟨a1, s1⟩ := a.laid hp (.lst vs)
  exact k _ _ M (.lst ds) _ s1 a1 ⟨p, vs, rfl, upd_same, r.mono s1⟩ h
theorem lst_born {K : PySem.W.Frag} {R F : Hp} {M : Mp} {H : Hp} {ds : List D} {vs : List V} {Qd : DK} {Q : VK} {p : Addr} (a : At K R F M H) (r : Reps K F ds vs) (k : KD K R F Qd Q) (h : ∀ p, M p = none → Qd (.ref p) (mupd M p (.lst ds))) (hp : H p = none) : Q (.ref p) (upd H p (.lst vs)) :=
  k F _ _ (.ref p) _ (Same.refl F) (a.born hp (o := .lst ds) ⟨vs, rfl, r⟩) rfl (h p (a.freeM hp))
theorem small1k {n : Nat} (h : n ≤ 1000) : n ≤ sizeLine := Nat.le_of_lt (small1000 h)
theorem pd_tup {k : Nat} (h : PDA X es t) (hz : es.length ≤ 1000 := by decide) : PDE X (.Tuple es k pos) (dTup t) :=
  pe_imp (pe_tup h) fun σ H Q ⟨R, F, env, M, Qd, a, e, h, k⟩ => ⟨R, F, env, M, _, a, e, h, fun F1 H1 M1 ds vs s1 a1 r1 l1 h1 => ⟨small1k (by rw [← r1.length, l1]; exact hz), fun p hp => tup_new a1 r1 (k.mono s1) h1 hp⟩⟩
theorem pd_lst (h : PDA X es t) (hz : es.length ≤ 1000 := by decide) : PDE X (.List es pos) (dLst t) :=
  pe_imp (pe_lst h) fun σ H Q ⟨R, F, env, M, Qd, a, e, h, k⟩ => ⟨R, F, env, M, _, a, e, h, fun F1 H1 M1 ds vs s1 a1 r1 l1 h1 => ⟨small1k (by rw [← r1.length, l1]; exact hz), fun p hp => lst_new a1 r1 (k.mono s1) h1 hp⟩⟩
theorem pd_lstM (h : PDA X es t) (hz : es.length ≤ 1000 := by decide) : PDE X (.List es pos) (dLstM t) :=
  pe_imp (pe_lst h) fun σ H Q ⟨R, F, env, M, Qd, a, e, h, k⟩ => ⟨R, F, env, M, _, a, e, h, fun F1 H1 M1 ds vs s1 a1 r1 l1 h1 => ⟨small1k (by rw [← r1.length, l1]; exact hz), fun p hp => lst_born a1 r1 (k.mono s1) h1 hp⟩⟩
end
end L3
set_option Elab.async false
set_option linter.all false
set_option maxRecDepth 100000
set_option maxHeartbeats 1000000
namespace L3
open PySem PySem.Spec PyProof.Rows L2
section
variable {X : Cx} {st : Stmt} {rest : List Stmt} {t u : DS} {e : Expr} {te : DE} {pos : Pos}
def dNext : DS := fun D env M => D.nx env M
def dSeq (t u : DS) : DS := fun D env M => t { D with nx := fun e m => u D e m } env M
theorem pdss_nil : PDSs X [] dNext := pss_imp pss_nil fun D σ H ⟨R, F, env, M, Dd, a, e, h, k⟩ => k.nx F H M env σ (Same.refl F) a e h
theorem pdss_cons (h1 : PDS X st t) (h2 : PDSs X rest u) : PDSs X (st :: rest) (dSeq t u) :=
  pss_imp (pss_cons h1 h2) fun D σ H ⟨R, F, env, M, Dd, a, e, h, k⟩ => ⟨R, F, env, M, _, a, e, h, ⟨fun F1 H1 M1 env1 σ1 s1 a1 e1 q1 => ⟨R, F1, env1, M1, Dd, a1, e1, q1, k.mono s1⟩, k.rt, k.bk, k.ct⟩⟩
theorem pdss_one (h1 : PDS X st t) : PDSs X [st] t := pss_one h1
def dDrop (te : DE) : DS := fun D env M => te env M fun _ M1 => D.nx env M1
theorem pds_expr (he : PDE X e te) (hs : swapsWith e none pos.line X.env = pure false := by rfl) : PDS X (.Expr e pos) (dDrop te) :=
  ps_imp (ps_expr he hs) fun D σ H ⟨R, F, env, M, Dd, a, e, h, k⟩ => ⟨R, F, env, M, _, a, e, h, fun F1 H1 M1 d v s1 a1 r1 q1 => k.nx F1 H1 M1 env σ s1 a1 (e.mono s1) q1⟩
def dRet (te : DE) : DS := fun D env M => te env M D.rt
theorem pds_ret (he : PDE X e te) : PDS X (.Return (some e) pos) (dRet te) :=
  ps_imp (ps_ret he) fun D σ H ⟨R, F, env, M, Dd, a, e, h, k⟩ => ⟨R, F, env, M, _, a, e, h, k.rt⟩
def dIfS (c : DT) (t u : DS) : DS := fun D env M => c env M fun b M1 => brn b (t D env M1) (u D env M1)
theorem pds_if {c : Expr} {a b : List Stmt} {tc : DT} (hc : PDT X c tc) (ha : PDSs X a t) (hb : PDSs X b u) : PDS X (.If c a b pos) (dIfS tc t u) :=
  ps_imp (ps_if hc ha hb) fun D σ H ⟨R, F, env, M, Dd, a, e, h, k⟩ => ⟨R, F, env, M, _, a, e, h, fun F1 H1 M1 b s1 a1 q1 => by
    cases b with
    | true => rw [brn_t] at q1; rw [if_pos rfl]; exact ⟨R, F1, env, M1, Dd, a1, e.mono s1, q1, k.mono s1⟩
    | false => rw [brn_f] at q1; rw [if_neg Bool.false_ne_true]; exact ⟨R, F1, env, M1, Dd, a1, e.mono s1, q1, k.mono s1⟩⟩
inductive Tg where
  | name (i : Nat)
  | tup (ts : List Tg)
mutual
def Tg.bind : Tg → D → DEnv → (DEnv → Prop) → Prop
  | .name i, d, env, k => k (env.set i (some d))
  | .tup ts, d, env, k => match d with
    | .tup ds => Tg.binds ts ds env k
    | _ => False
def Tg.binds : List Tg → List D → DEnv → (DEnv → Prop) → Prop
  | [], [], env, k => k env
  | t :: ts, d :: ds, env, k => Tg.bind t d env fun env1 => Tg.binds ts ds env1 k
  | _, _, _, _ => False
end
mutual
def Tg.slots : Tg → List Nat
  | .name i => [i]
  | .tup ts => Tg.slotsL ts
def Tg.slotsL : List Tg → List Nat
  | [] => []
  | t :: ts => Tg.slots t ++ Tg.slotsL ts
end
mutual
def tgOf (K : PySem.W.Frag) : Tg → TG
  | .name i => gName i
  | .tup ts => gTup K ts.length (tgsOf K ts)
def tgsOf (K : PySem.W.Frag) : List Tg → TGs
  | [] => gNil
  | t :: ts => gCons (tgOf K t) (tgsOf K ts)
end
abbrev PDG (X : Cx) (tg : Expr) (t : Tg) : Prop := PG X tg (tgOf X.K t)
abbrev PDGs (X : Cx) (tgs : List Expr) (ts : List Tg) : Prop := PGs X tgs (tgsOf X.K ts)
theorem wipe_get (σ : L2.St) (j : Nat) : ∀ vs : List Nat, (wipe σ vs)[j]? = if j ∈ vs then (σ[j]?).map (fun _ => none) else σ[j]?
  | [] => by simp [wipe]
  | v :: vs => by
    show ((wipe σ vs).set v none)[j]? = _
    by_cases hv : v = j
    · subst hv
      rw [List.getElem?_set, if_pos rfl, if_pos List.mem_cons_self, wipe_length]
      by_cases hl : v < σ.length
      · rw [if_pos hl, List.getElem?_eq_getElem hl]; rfl
      · rw [if_neg hl, List.getElem?_eq_none (Nat.le_of_not_lt hl)]; rfl
    · rw [List.getElem?_set_ne hv, wipe_get σ j vs]
      by_cases hm : j ∈ vs
      · rw [if_pos hm, if_pos (List.mem_cons_of_mem _ hm)]
      · rw [if_neg hm, if_neg (by simp [hm, Ne.symm hv])]
theorem wipe_ext {σ σ' : L2.St} {vs : List Nat} (hl : σ.length = σ'.length) (h : ∀ j, j ∉ vs → σ[j]? = σ'[j]?) : wipe σ vs = wipe σ' vs := by
  apply List.ext_getElem?
  intro j
  rw [wipe_get, wipe_get]
  by_cases hm : j ∈ vs
  · rw [if_pos hm, if_pos hm]
    by_cases hj : j < σ.length
    · rw [List.getElem?_eq_getElem hj, List.getElem?_eq_getElem (hl ▸ hj)]; rfl
    · rw [List.getElem?_eq_none (Nat.le_of_not_lt hj), List.getElem?_eq_none (by omega)]
  · rw [if_neg hm, if_neg hm]; exact h j hm
theorem wipe_out {σ σ' : L2.St} {vs : List Nat} (h : wipe σ vs = wipe σ' vs) : σ.length = σ'.length ∧ ∀ j, j ∉ vs → σ[j]? = σ'[j]? := by
  refine ⟨by rw [← wipe_length σ vs, h, wipe_length], fun j hj => ?_⟩
  have := congrArg (fun l => l[j]?) h
  simp only [wipe_get, if_neg hj] at this
  exact this
theorem wipe_sub {σ σ' : L2.St} {vs ws : List Nat} (hs : ∀ v ∈ vs, v ∈ ws) (h : wipe σ vs = wipe σ' vs) : wipe σ ws = wipe σ' ws := by
  obtain ⟨hl, hg⟩ := wipe_out h
  exact wipe_ext hl fun j hj => hg j fun hm => hj (hs j hm)
theorem wipe_set (σ : L2.St) (i : Nat) (x : Option V) (vs : List Nat) (h : i ∈ vs) : wipe (σ.set i x) vs = wipe σ vs :=
  wipe_ext (by simp) fun j hj => List.getElem?_set_ne (fun e => hj (by rw [← e]; exact h))
theorem wipe_wipe (σ : L2.St) (vs : List Nat) : wipe (wipe σ vs) vs = wipe σ vs :=
  wipe_ext (wipe_length _ _) fun j hj => by rw [wipe_get, if_neg hj]
theorem Tg.binds_len : ∀ (ts : List Tg) (ds : List D) (env : DEnv) (k : DEnv → Prop), Tg.binds ts ds env k → ds.length = ts.length := by
  intro ts
  refine Tg.rec_1 (motive_1 := fun t => ∀ (d : D) (env : DEnv) (k : DEnv → Prop), t.bind d env k → ∃ env1, k env1) (motive_2 := fun ts => ∀ (ds : List D) (env : DEnv) (k : DEnv → Prop), Tg.binds ts ds env k → ds.length = ts.length ∧ ∃ env1, k env1) ?_ ?_ ?_ ?_ ts |> fun h ds env k q => (h ds env k q).1
  · intro i d env k h; exact ⟨_, h⟩
  · intro ts ih d env k h
    cases d with
    | tup ds => exact (ih ds env k h).2
    | _ => exact h.elim
  · intro ds env k h
    cases ds with
    | nil => exact ⟨rfl, _, h⟩
    | cons d ds => exact h.elim
  · intro t ts i1 i2 ds env k h
    cases ds with
    | nil => exact h.elim
    | cons d ds =>
      obtain ⟨env1, h1⟩ := i1 d env _ h
      obtain ⟨e, q⟩ := i2 ds env1 k h1
      exact ⟨by simp [e], q⟩
/-- the rule of a target serves its data -/
theorem tg_serves {K : PySem.W.Frag} {R F : Hp} {M : Mp} {H : Hp} (a : At K R F M H) : ∀ (t : Tg) (σ : L2.St) (env : DEnv) (d : D) (v : V) (Qd : DEnv → Prop) (Q : L2.St → Hp → Prop), EnvR K F σ env → Rep K F d v → t.bind d env Qd →
    (∀ σ' env', EnvR K F σ' env' → wipe σ' t.slots = wipe σ t.slots → Qd env' → Q σ' H) → tgOf K t v σ H Q := by
  intro t
  refine Tg.rec (motive_1 := fun t => ∀ (σ : L2.St) (env : DEnv) (d : D) (v : V) (Qd : DEnv → Prop) (Q : L2.St → Hp → Prop), EnvR K F σ env → Rep K F d v → t.bind d env Qd →
    (∀ σ' env', EnvR K F σ' env' → wipe σ' t.slots = wipe σ t.slots → Qd env' → Q σ' H) → tgOf K t v σ H Q)
    (motive_2 := fun ts => ∀ (σ : L2.St) (env : DEnv) (ds : List D) (vs : List V) (Qd : DEnv → Prop) (Q : L2.St → Hp → Prop), EnvR K F σ env → Reps K F ds vs → Tg.binds ts ds env Qd →
    (∀ σ' env', EnvR K F σ' env' → wipe σ' (Tg.slotsL ts) = wipe σ (Tg.slotsL ts) → Qd env' → Q σ' H) → tgsOf K ts vs σ H Q) ?_ ?_ ?_ ?_ t
  · intro i σ env d v Qd Q e r h k
    exact k _ _ (e.set i r) (wipe_set _ _ _ _ (by simp [Tg.slots])) h
  · intro ts ih σ env d v Qd Q e r h k
    cases d with
    | tup ds =>
      obtain ⟨p, xs, rfl, q, r⟩ := r
      have e1 := Tg.binds_len ts ds env Qd h
      have e2 := r.length
      exact ⟨p, xs, rfl, Same.seqT a.fz q, by omega, ih σ env ds xs Qd Q e r h k⟩
    | _ => exact h.elim
  · intro σ env ds vs Qd Q e r h k
    cases ds with
    | nil => exact ⟨r, k σ env e rfl h⟩
    | cons d ds => exact h.elim
  · intro tg tgs i1 i2 σ env ds vs Qd Q e r h k
    cases ds with
    | nil => exact h.elim
    | cons d ds =>
      obtain ⟨x, xr, rfl, r1, r2⟩ := r
      refine ⟨x, xr, rfl, i1 σ env d x _ _ e r1 h fun σ1 env1 e1 w1 q1 => ?_⟩
      refine i2 σ1 env1 ds xr Qd Q e1 r2 q1 fun σ2 env2 e2 w2 q2 => k σ2 env2 e2 ?_ q2
      have z1 : ∀ v ∈ tg.slots, v ∈ Tg.slotsL (tg :: tgs) := fun v hv => List.mem_append_left _ hv
      have z2 : ∀ v ∈ Tg.slotsL tgs, v ∈ Tg.slotsL (tg :: tgs) := fun v hv => List.mem_append_right _ hv
      exact (wipe_sub z2 w2).trans (wipe_sub z1 w1)
theorem pdg_name {i : Nat} {x : Str} (hN : X.N.Nodup) (hi : X.N[i]? = some x := by rfl) (hx : Loc X.env.scope x := by first | exact Or.inl rfl | exact Or.inr rfl) (hf : X.fn x = true ∨ X.env.scope.names.lookup x = some .local := by first | exact .inl rfl | exact .inr rfl | assumption) : PDG X (.Name x pos) (.name i) :=
  pg_name hN hi hx hf
theorem pdgs_nil : PDGs X [] [] := pgs_nil
theorem pdgs_cons {g : Expr} {gs : List Expr} {tg : Tg} {tgs : List Tg} (h1 : PDG X g tg) (h2 : PDGs X gs tgs)
    (hs : (assignEach (g :: gs) X.env).map (·.2) = assign g X.env :: (assignEach gs X.env).map (·.2) := by rfl) : PDGs X (g :: gs) (tg :: tgs) := pgs_cons h1 h2 hs
theorem pdg_tup {es : List Expr} {k : Nat} {ts : List Tg} (h : PDGs X es ts) (hc : X.calm = true := by rfl)
    (hn : (assignEach es X.env).length = ts.length := by rfl) (hst : (assignEach es X.env).findIdx? (·.1) = none := by rfl) : PDG X (.Tuple es k pos) (.tup ts) := pg_tup hc h hn hst
def dAsg (te : DE) (t : Tg) : DS := fun D env M => te env M fun d M1 => t.bind d env fun env1 => D.nx env1 M1
theorem pds_asg {tg : Expr} {t : Tg} (he : PDE X e te) (hg : PDG X tg t) (hs : swapsWithSole [tg] e pos.line X.env = pure false := by rfl) (hw : swappedStores [tg] e X.env = pure none := by rfl)
    (h1 : (assignEach [tg] X.env).map (·.2) = [assign tg X.env] := by rfl) : PDS X (.Assign [tg] e pos) (dAsg te t) := by
  exact ps_imp (ps_asg he hg hs hw h1) fun D σ H ⟨R, F, env, M, Dd, a, e, h, k⟩ => ⟨R, F, env, M, _, a, e, h, fun F1 H1 M1 d v s1 a1 r1 q1 =>
    tg_serves a1 t σ env d v _ _ (e.mono s1) r1 q1 fun σ' env' e' _ q' => k.nx F1 H1 M1 env' σ' s1 a1 e' q'⟩
def dSet (i : Nat) (te : DE) : DS := fun D env M => te env M fun d M1 => D.nx (env.set i (some d)) M1
theorem pds_set {i : Nat} {x : Str} {pos' : Pos} (hN : X.N.Nodup) (he : PDE X e te) (hi : X.N[i]? = some x := by rfl) (hx : Loc X.env.scope x := by first | exact Or.inl rfl | exact Or.inr rfl) (hs : swapsWith e (some (.Name x pos')) pos.line X.env = pure false := by rfl) (hf : X.fn x = true ∨ X.env.scope.names.lookup x = some .local := by first | exact .inl rfl | exact .inr rfl | assumption) :
    PDS X (.Assign [.Name x pos'] e pos) (dSet i te) :=
  ps_imp (ps_set hN hi hx he hs hf) fun D σ H ⟨R, F, env, M, Dd, a, e, h, k⟩ => ⟨R, F, env, M, _, a, e, h, fun F1 H1 M1 d v s1 a1 r1 q1 => k.nx F1 H1 M1 _ _ s1 a1 ((e.mono s1).set i r1) q1⟩
/-- a, b = x, y with plain local names -/
def dPar (i j : Nat) (ta : DA) : DS := fun D env M => ta env M fun ds M1 => match ds with
  | [d, g] => D.nx ((env.set i (some d)).set j (some g)) M1
  | _ => False
theorem pds_par {i j : Nat} {x y : Str} {a b : Expr} {ta : DA} {px py pt : Pos} {kt k2 pt2} (hN : X.N.Nodup) (ha : PDA X [a, b] ta) (hc : X.calm = true := by rfl) (hi : X.N[i]? = some x := by rfl) (hj : X.N[j]? = some y := by rfl) (hij : i ≠ j := by decide)
    (hx : X.env.scope.names.lookup x = some .local := by rfl) (hy : X.env.scope.names.lookup y = some .local := by rfl)
    (hw : swappedStores [.Tuple [.Name x px, .Name y py] kt pt] (.Tuple [a, b] k2 pt2) X.env = pure (some [x, y]) := by rfl)
    (hs : swapsWithSole [.Tuple [.Name x px, .Name y py] kt pt] (.Tuple [a, b] k2 pt2) pos.line X.env = pure false := by rfl) :
    PDS X (.Assign [.Tuple [.Name x px, .Name y py] kt pt] (.Tuple [a, b] k2 pt2) pos) (dPar i j ta) :=
  ps_imp (ps_par hc hN hi hj hij hx hy ha hw hs) fun D σ H ⟨R, F, env, M, Dd, a, e, h, k⟩ => ⟨R, F, env, M, _, a, e, h, fun F1 H1 M1 ds vs s1 a1 r1 l1 q1 => by
    obtain ⟨d, g, rfl⟩ : ∃ d g, ds = [d, g] := by
      cases ds with
      | nil => exact q1.elim
      | cons d ds => cases ds with
        | nil => exact q1.elim
        | cons g ds => cases ds with
          | nil => exact ⟨d, g, rfl⟩
          | cons _ _ => exact q1.elim
    obtain ⟨x, r, e1, h1, r2⟩ := r1
    obtain ⟨y, r', e2, h2, e3⟩ := r2
    cases (show r' = [] from e3)
    subst e1 e2
    exact ⟨x, y, rfl, k.nx F1 H1 M1 _ _ s1 a1 (((e.mono s1).set i h1).set j h2) q1⟩⟩
/-- an own list or dict held by a name is frozen: a step of ours, not of the program -/
def dFrz (te : DE) : DE := fun env M Q => te env M fun d M1 => match d with
  | .ref q => match M1 q with
    | some (.lst ds) => Q (.lst ds) (mdel M1 q)
    | some (.dct ks ds) => Q (.dct ks ds) (mdel M1 q)
    | some (.ins c ds) => Q (.obj c ds) (mdel M1 q)
    | some (.dkd w ks ds) => Q (.dkd w ks ds) (mdel M1 q)
    | _ => False
  | _ => False
theorem pe_lock {X : Cx} {e : Expr} {t : TE} (h : PE X e t) : PE X e (fun σ H Q => t σ H fun v H1 => Q v H1 ∨ ∃ d u, v = .ref d ∧ H1 d = some u ∧ Mut (some u) ∧ ∀ o, Q v (upd H1 d (.frz o u))) := ⟨fun pins s σ H Q I q =>
  thn (h.run pins s σ H _ I q) fun u s1 ⟨v, H1, I1, r, q1⟩ => by
    rcases q1 with q1 | ⟨d, kvs, e, hd, mu, q1⟩
    · exact ⟨v, H1, I1, r, q1⟩
    · obtain ⟨od, I2⟩ := I1.lock hd mu
      exact ⟨v, _, I2, r, q1 od⟩⟩
theorem pd_frz (he : PDE X e te) : PDE X e (dFrz te) := pe_imp (pe_lock he) fun σ H Q ⟨R, F, env, M, Qd, a, e, h, k⟩ => ⟨R, F, env, M, _, a, e, h, fun F1 H1 M1 d v s1 a1 r1 q1 => by
  split at q1
  · rename_i q
    split at q1
    · rename_i ds hm
      obtain ⟨u, ru, a2, s2⟩ := a1.freeze hm
      obtain ⟨xs, rfl, rx⟩ := ru
      exact .inl (k _ H1 _ (.lst ds) v (s1.trans s2) a2 ⟨q, xs, r1, upd_same, rx.mono s2⟩ q1)
    · rename_i ks ds hm
      obtain ⟨_, u, hu, xs, rfl, l, rx⟩ := a1.mu _ _ hm
      refine .inr ⟨q, _, r1, hu, trivial, fun o => ?_⟩
      obtain ⟨a2, s2⟩ := a1.freezeAs hm (.frz o (.dK (ks.zip xs)))
      exact k _ _ _ (.dct ks ds) v (s1.trans s2) a2 ⟨q, o, xs, r1, upd_same, l, rx.mono s2⟩ q1
    · rename_i c ds hm
      obtain ⟨u, ru, a2, s2⟩ := a1.freeze hm
      obtain ⟨dx, xs, rfl, l, rx⟩ := ru
      exact .inl (k _ H1 _ (.obj c ds) v (s1.trans s2) a2 ⟨q, dx, xs, r1, upd_same, l, rx.mono s2⟩ q1)
    · rename_i w ks ds hm
      obtain ⟨_, u, hu, Ls, rfl, l, rk, rx⟩ := a1.mu _ _ hm
      refine .inr ⟨q, _, r1, hu, trivial, fun o => ?_⟩
      obtain ⟨a2, s2⟩ := a1.freezeAs hm (.frz o (DkO w q Ls))
      exact k _ _ _ (.dkd w ks ds) v (s1.trans s2) a2 ⟨q, o, Ls, r1, upd_same, l, rk.mono s2, rx.mono s2⟩ q1
    · exact q1.elim
  · exact q1.elim⟩
/-- the walk J gives the items one by one -/
structure Gives (K : PySem.W.Frag) (J : It) (F : Hp) (items : List D) : Prop where
  small : items.length ≤ sizeLine
  stop : ∀ R F' M H, Same F F' → At K R F' M H → J.stop items.length H
  go : ∀ i d R F' M H, Same F F' → At K R F' M H → items[i]? = some d → J.go i H ∧ ∀ x H', J.yld i H x H' → ∃ F2, Same F' F2 ∧ At K R F2 M H' ∧ Rep K F2 d x
abbrev DI := DEnv → Mp → (List D → Mp → Prop) → Prop
def upI (K : PySem.W.Frag) (w : DI) : TI := fun σ H Z => ∃ R F env M Qd, At K R F M H ∧ EnvR K F σ env ∧ w env M Qd ∧ ∀ F' H' M' items J, Same F F' → At K R F' M' H' → Gives K J F' items → Qd items M' → Z J H'
abbrev PDI (X : Cx) (tg iter : Expr) (w : DI) : Prop := PI X tg iter (upI X.K w)
theorem pi_imp {tg iter : Expr} {w w' : TI} (h : PI X tg iter w) (i : ∀ σ H R, w' σ H R → w σ H R) : PI X tg iter w' := ⟨fun pins s σ H R I q => h.run pins s σ H R I (i _ _ _ q)⟩
/-- for, turn by turn -/
def dForL0 (t : Tg) (tb : DS) : List D → DS
  | [] => fun D env M => D.nx env M
  | x :: r => fun D env M => t.bind x env fun env1 => tb { D with nx := fun e m => dForL0 t tb r D e m, ct := fun e m => dForL0 t tb r D e m, bk := D.nx } env1 M
/-- .. not unfolded by itself -/
@[irreducible] def dForL (t : Tg) (tb : DS) (xs : List D) : DS := dForL0 t tb xs
theorem dForL_eq {t : Tg} {tb : DS} {xs : List D} : dForL t tb xs = dForL0 t tb xs := by unfold dForL; rfl
def dFor (w : DI) (t : Tg) (tb : DS) : DS := fun D env M => w env M fun items M1 => dForL t tb items D env M1
theorem pds_for {tg iter : Expr} {body : List Stmt} {w : DI} {t : Tg} {tb : DS} (hp : PassesOwn (model X.prog X.w) X.A X.env X.xe) (hi : PDI X tg iter w) (hg : PDG X tg t) (hb : PDSs X body tb) (hc : X.calm = true := by rfl)
    (hs : ∀ x, foldedSetIterable iter X.env x = pure x := by intro _; rfl) : PDS X (.For tg iter body [] pos) (dFor w t tb) := by
  refine ps_imp (ps_for hp hc hi hg hb hs) fun D σ H ⟨R, F, env, M, Dd, a, e, h, k⟩ => ⟨R, F, env, M, _, a, e, h, fun F1 H1 M1 items J s1 a1 gv q1 => ?_⟩
  rw [dForL_eq] at q1
  refine ⟨fun i m σ H => ∃ F2 env2 M2, Same F1 F2 ∧ At X.K R F2 M2 H ∧ EnvR X.K F2 σ env2 ∧ dForL0 t tb (items.drop i) Dd env2 M2 ∧ m = items.length - i ∧ i ≤ items.length, ⟨items.length, F1, env, M1, Same.refl _, a1, e.mono s1, q1, by simp, Nat.zero_le _⟩, ?_⟩
  rintro i m σ2 H2 ⟨F2, env2, M2, s2, a2, e2, q2, rfl, hi⟩
  by_cases hlt : i < items.length
  · rw [List.drop_eq_getElem_cons hlt] at q2
    obtain ⟨hgo, hy⟩ := gv.go i items[i] R F2 M2 H2 s2 a2 (List.getElem?_eq_getElem hlt)
    refine .inr ⟨hgo, fun σ' H' => ∃ F3 env3 M3, Same F1 F3 ∧ At X.K R F3 M3 H' ∧ EnvR X.K F3 σ' env3 ∧ dForL0 t tb (items.drop (i + 1)) Dd env3 M3, fun σ' H' ⟨F3, env3, M3, s3, a3, e3, q3⟩ => ⟨items.length - (i + 1), by omega, F3, env3, M3, s3, a3, e3, q3, rfl, hlt⟩, fun x H' y => ?_⟩
    obtain ⟨F3, s3, a3, r3⟩ := hy x H' y
    refine tg_serves a3 t σ2 env2 items[i] x _ _ (e2.mono s3) r3 q2 fun σ' env' e' _ q' => ?_
    have k3 := k.mono (s1.trans (s2.trans s3))
    exact ⟨R, F3, env', M2, _, a3, e', q', ⟨fun F4 H4 M4 env4 σ4 s4 a4 e4 q4 => ⟨F4, env4, M4, s2.trans (s3.trans s4), a4, e4, q4⟩, k3.rt, k3.nx, fun F4 H4 M4 env4 σ4 s4 a4 e4 q4 => ⟨F4, env4, M4, s2.trans (s3.trans s4), a4, e4, q4⟩⟩⟩
  · have e : i = items.length := by omega
    subst e
    rw [List.drop_length] at q2
    exact .inl ⟨gv.stop R F2 M2 H2 s2 a2, k.nx F2 H2 M2 env2 σ2 (s1.trans s2) a2 e2 q2⟩
abbrev PDTs (X : Cx) (ifs : List Expr) (t : DT) : Prop := PTs X ifs (upT X.K t)
def dYes : DT := fun _ M Q => Q true M
theorem pts_imp {ifs : List Expr} {t t' : TT} (h : PTs X ifs t) (i : ∀ σ H Q, t' σ H Q → t σ H Q) : PTs X ifs t' := ⟨fun pins s σ H Q I q => h.run pins s σ H Q I (i _ _ _ q)⟩
theorem pdts_nil : PDTs X [] dYes := pts_imp pts_nil fun σ H Q ⟨R, F, env, M, Qd, a, e, h, k⟩ => k F H M true (Same.refl F) a h
def dLcL0 (t : Tg) (tt : DT) (te : DE) (env : DEnv) : List D → List D → Mp → (List D → Mp → Prop) → Prop
  | [], acc, M, Q => Q acc M
  | x :: r, acc, M, Q => t.bind x env fun env1 => tt env1 M fun b M1 => brn b (te env1 M1 fun y M2 => dLcL0 t tt te env r (acc ++ [y]) M2 Q) (dLcL0 t tt te env r acc M1 Q)
@[irreducible] def dLcL (t : Tg) (tt : DT) (te : DE) (env : DEnv) (xs acc : List D) (M : Mp) (Q : List D → Mp → Prop) : Prop := dLcL0 t tt te env xs acc M Q
theorem dLcL_eq {t : Tg} {tt : DT} {te : DE} {env : DEnv} {xs acc : List D} {M : Mp} {Q : List D → Mp → Prop} : dLcL t tt te env xs acc M Q = dLcL0 t tt te env xs acc M Q := by unfold dLcL; rfl
def dLc (w : DI) (t : Tg) (tt : DT) (te : DE) (vs : List Nat) : DE := fun env M Q => w env M fun items M1 => dLcL t tt te (wipeD env vs) items [] M1 fun ds M2 => Q (.lst ds) M2
theorem lc_served {K : PySem.W.Frag} {w : DI} {t : Tg} {tt : DT} {te : DE} {vs : List Nat} (hv : ∀ v ∈ t.slots, v ∈ vs) {σ : L2.St} {H : Hp} {Q : VK} {R F : Hp} {env : DEnv} {M : Mp} {Qd : List D → Mp → Prop}
    (a : At K R F M H) (e : EnvR K F σ env) (h : w env M fun items M1 => dLcL t tt te (wipeD env vs) items [] M1 Qd)
    (k : ∀ F' H' M' ds D xs, Same F F' → At K (upd R D (.lst xs)) F' M' H' → R D = none → Reps K F' ds xs → Qd ds M' → Q (.ref D) H') :
    tLc (upI K w) (tgOf K t) (upT K tt) (up K te) vs σ H Q := by
  refine ⟨R, F, env, M, _, a, e, h, fun F1 H1 M1 items J s1 a1 gv q1 => ?_⟩
  rw [dLcL_eq] at q1
  intro D hD
  have hRD := a1.freeR hD
  refine ⟨fun i m H => ∃ F2 M2 ds xs, Same F1 F2 ∧ At K (upd R D (.lst xs)) F2 M2 H ∧ Reps K F2 ds xs ∧ dLcL0 t tt te (wipeD env vs) (items.drop i) ds M2 Qd ∧ m = items.length - i ∧ i ≤ items.length ∧ ds.length ≤ i,
    ⟨items.length, F1, M1, [], [], Same.refl _, a1.lend hD _, rfl, q1, by simp, Nat.zero_le _, Nat.le_refl _⟩, ?_⟩
  rintro i m H2 ⟨F2, M2, ds, xs, s2, a2, rx, q2, rfl, hi, hl⟩
  by_cases hlt : i < items.length
  · rw [List.drop_eq_getElem_cons hlt] at q2
    obtain ⟨hgo, hy⟩ := gv.go i items[i] _ F2 _ _ s2 a2 (List.getElem?_eq_getElem hlt)
    refine .inr ⟨hgo, fun H' => ∃ F3 M3 ds3 xs3, Same F1 F3 ∧ At K (upd R D (.lst xs3)) F3 M3 H' ∧ Reps K F3 ds3 xs3 ∧ dLcL0 t tt te (wipeD env vs) (items.drop (i + 1)) ds3 M3 Qd ∧ ds3.length ≤ i + 1,
      fun H' ⟨F3, M3, ds3, xs3, s3, a3, r3, q3, l3⟩ => ⟨items.length - (i + 1), by omega, F3, M3, ds3, xs3, s3, a3, r3, q3, rfl, hlt, l3⟩, fun x H' y => ?_⟩
    obtain ⟨F3, s3, a3, r3⟩ := hy x H' y
    refine tg_serves a3 t (wipe σ vs) (wipeD env vs) items[i] x _ _ ((e.wipe vs).mono ((s1.trans s2).trans s3)) r3 q2 fun σ' env' e' w' q' => ?_
    refine ⟨(wipe_sub hv w').trans (wipe_wipe σ vs), _, F3, env', M2, _, a3, e', q', fun F4 H4 M4 b s4 a4 q4 => ?_⟩
    show if b = true then _ else _
    cases b with
    | true =>
      rw [brn_t] at q4; rw [if_pos rfl]
      refine ⟨_, F4, env', M4, _, a4, e'.mono s4, q4, fun F5 H5 M5 d v s5 a5 r5 q5 => ?_⟩
      have z := a5.fr D _ upd_same
      refine ⟨xs, z.2.2, ?_, F5, M5, ds ++ [d], xs ++ [v], ((s2.trans s3).trans s4).trans s5, by have := a5.relend (u' := .lst (xs ++ [v])); exact this, ((rx.mono s3).mono s4 |>.mono s5).append (Reps.one r5), q5, by simp; omega⟩
      have := rx.length
      have := gv.small
      omega
    | false =>
      rw [brn_f] at q4; rw [if_neg Bool.false_ne_true]
      exact ⟨F4, M4, ds, xs, (s2.trans s3).trans s4, a4, (rx.mono s3).mono s4, q4, by omega⟩
  · have e : i = items.length := by omega
    subst e
    rw [List.drop_length] at q2
    exact .inl ⟨gv.stop _ F2 M2 _ s2 a2, k F2 _ M2 ds D xs (s1.trans s2) a2 hRD rx q2⟩
section
variable {X : Cx} {pos : Pos} {elt tg iter : Expr} {ifs : List Expr} {scope : Scope} {own : List (Str × Nat)} {w : DI} {t : Tg} {tt : DT} {te : DE}
theorem lc_lst {K : PySem.W.Frag} {w : DI} {t : Tg} {tt : DT} {te : DE} {vs : List Nat} (hv : ∀ v ∈ t.slots, v ∈ vs) : ∀ σ H Q, up K (dLc w t tt te vs) σ H Q → tLc (upI K w) (tgOf K t) (upT K tt) (up K te) vs σ H Q :=
  fun σ H Q ⟨R, F, env, M, Qd, a, e, h, k⟩ => lc_served hv a e h fun F' H' M' ds D xs s a' hR r q => by
    obtain ⟨a2, s2⟩ := a'.takeF hR
    exact k _ H' M' (.lst ds) _ (s.trans s2) a2 ⟨D, xs, rfl, upd_same, r.mono s2⟩ q
/-- the context of a comprehension's block -/
abbrev BlkAll (X : Cx) (scope : Scope) (φ : Cx → Prop) : Prop := ∀ (s : Shared) (H : Hp) (C : Addr) (cl : List (Str × Addr)) (fp : List Addr), φ (X.blk s H scope (compEnvC scope cl C X.env) fp)
theorem pd_lc (hN : X.N.Nodup) (hi : PDI X tg iter w) (ok : BlkOk X.N X.env.scope scope own)
    (hg : BlkAll X scope fun Y => PDG Y tg t) (ht : BlkAll X scope fun Y => PDTs Y ifs tt) (he : BlkAll X scope fun Y => PDE Y elt te) (hv : ∀ v ∈ t.slots, v ∈ own.map (·.2) := by decide)
    (hc : X.calm = true := by rfl) (hs : ∀ x, foldedSetIterable iter X.env x = pure x := by intro _; rfl) :
    PDE X (.ListComp elt [⟨tg, iter, ifs, 0⟩] scope pos) (dLc w t tt te (own.map (·.2))) :=
  pe_imp (pe_lc hc hN hi ok hg ht he hs) (lc_lst hv)
/-- name = [..] on one line, the name a local -/
theorem pds_setLc {i : Nat} {y : Str} {py spos : Pos} (hN : X.N.Nodup) (hsw : swapsWith (.ListComp elt [⟨tg, iter, ifs, 0⟩] scope pos) (some (.Name y py)) spos.line X.env = pure true) (hi : PDI X tg iter w) (ok : BlkOk X.N X.env.scope scope own)
    (hg : BlkAll X scope fun Y => PDG Y tg t) (ht : BlkAll X scope fun Y => PDTs Y ifs tt) (he : BlkAll X scope fun Y => PDE Y elt te) (hv : ∀ v ∈ t.slots, v ∈ own.map (·.2) := by decide)
    (hy : X.N[i]? = some y := by rfl) (hyl : X.env.scope.names.lookup y = some .local := by rfl)
    (hc : X.calm = true := by rfl) (hs : ∀ x, foldedSetIterable iter X.env x = pure x := by intro _; rfl) :
    PDS X (.Assign [.Name y py] (.ListComp elt [⟨tg, iter, ifs, 0⟩] scope pos) spos) (dSet i (dLc w t tt te (own.map (·.2)))) :=
  ps_imp (ps_setLc hc hN hy hyl hsw hi ok hg ht he hs) fun D σ H ⟨R, F, env, M, Dd, a, e, h, k⟩ => lc_lst hv _ _ _ ⟨R, F, env, M, _, a, e, h, fun F1 H1 M1 d v s1 a1 r1 q1 => k.nx F1 H1 M1 _ _ s1 a1 ((e.mono s1).set i r1) q1⟩
end
end
end L3
set_option Elab.async false
set_option linter.all false
set_option maxRecDepth 100000
set_option maxHeartbeats 1000000
namespace L3
open PySem PySem.Spec PyProof.Rows L2
/-- what is wanted of an exception: its class, the fields of its own dict, the store -/
abbrev DX := Str → List Str → List D → Mp → Prop
abbrev SpD := List D → Mp → DK → DX → Prop
def KX (K : PySem.W.Frag) (R F : Hp) (Ed : DX) (E : XK) : Prop := ∀ F' H' M' nm dd ns ds xs, Same F F' → At K R F' M' H' → F' dd = some (.xd (ns.zip xs)) → ns.length = ds.length → Reps K F' ds xs → Ed nm ns ds M' → E (.ref (He.ga K nm)) (some dd) H'
theorem KX.mono {K : PySem.W.Frag} {R F F1 : Hp} {Ed : DX} {E : XK} (k : KX K R F Ed E) (s : Same F F1) : KX K R F1 Ed E := fun F' H' M' nm dd ns ds xs s' => k F' H' M' nm dd ns ds xs (s.trans s')
def upSp (K : PySem.W.Frag) (n : Nat) (sp : SpD) : Sp := fun vs H Q E => ∃ R F M ds Qd Ed, At K R F M H ∧ Reps K F ds vs ∧ ds.length = n ∧ sp ds M Qd Ed ∧ KD K R F Qd Q ∧ KX K R F Ed E
abbrev X0 : DX := fun _ _ _ _ => False
theorem kx0 {K : PySem.W.Frag} {R F : Hp} {E : XK} : KX K R F X0 E := fun _ _ _ _ _ _ _ _ _ _ _ _ _ h => h.elim
/-- what raises nothing is passed on -/
theorem passE0 {X : Cx} : Passes (L2N.CX X.prog X.w) X E0 := fun _ _ _ _ _ _ _ ⟨_, _, _, _, _, _, _, _, _, _, _, _, h⟩ => h.elim
def startD (N : List Str) (ds : List D) : DEnv := ds.map some ++ List.replicate (N.length - ds.length) none
theorem start_env {K : PySem.W.Frag} {F : Hp} {N : List Str} {ds : List D} {vs : List V} (r : Reps K F ds vs) : EnvR K F (L2.start N vs) (startD N ds) := by
  have hl := r.length
  refine ⟨by unfold L2.start startD; simp [hl], fun i d h => ?_⟩
  unfold startD at h
  by_cases hi : i < ds.length
  · rw [List.getElem?_append_left (by simpa using hi), List.getElem?_map] at h
    cases e : ds[i]? with
    | none => rw [e] at h; cases h
    | some g =>
      rw [e] at h; cases h
      obtain ⟨v, h1, h2⟩ := r.get e
      refine ⟨v, ?_, h2⟩
      unfold L2.start
      rw [List.getElem?_append_left (by simpa [← hl] using hi), List.getElem?_map, h1]; rfl
  · rw [List.getElem?_append_right (by simpa using hi), List.getElem?_replicate] at h
    split at h <;> cases h
/-- a def as it stands behind the top -/
structure DefAt (K : PySem.W.Frag) (mg : Str → Option Value) (x : Str) (st : Stmt) : Prop where
  ex : ∃ f fd, FunD K x x (defArgs st) (defBody st) (defScope st) [] [] f fd ∧ mg x = some (.ref f)
/-- .. and keeps a promise -/
structure DefOk (P : Program) (w : World) (K : PySem.W.Frag) (mg : Str → Option Value) (base : Heap) (k : Nat) (x : Str) (n : Nat) (sp : SpD) : Prop where
  ex : ∃ f fd ps, FnOk P w K mg base (L2N.CX P w) k f fd ps (upSp K n sp) ∧ ps.length = n ∧ mg x = some (.ref f) ∧ PySem.W.keepIn K (.ref f) = true ∧ Binds K fd ps []
theorem DefOk.mono {P : Program} {w : World} {K : PySem.W.Frag} {mg : Str → Option Value} {base : Heap} {j k : Nat} {x : Str} {n : Nat} {sp : SpD} (d : DefOk P w K mg base j x n sp) (h : j ≤ k) : DefOk P w K mg base k x n sp := by
  obtain ⟨f, fd, ps, a, b⟩ := d.ex
  exact ⟨f, fd, ps, a.mono h, b⟩
theorem DefOk.imp {P : Program} {w : World} {K : PySem.W.Frag} {mg : Str → Option Value} {base : Heap} {k : Nat} {x : Str} {n : Nat} {sp sp' : SpD} (d : DefOk P w K mg base k x n sp) (h : ∀ ds M Q E, sp' ds M Q E → sp ds M Q E) : DefOk P w K mg base k x n sp' := by
  obtain ⟨f, fd, ps, a, b⟩ := d.ex
  exact ⟨f, fd, ps, a.imp fun vs H Q E ⟨R, F, M, ds, Qd, Ed, h1, h2, h3, h4, h5⟩ => ⟨R, F, M, ds, Qd, Ed, h1, h2, h3, h _ _ _ _ h4, h5⟩, b⟩
/-- the context of a def's body that lets nothing out -/
abbrev bodyCx (P : Program) (w : World) (K : PySem.W.Frag) (mg : Str → Option Value) (base : Heap) (N : List Str) (x : Str) (st : Stmt) (f : Addr) (cdv : Value) (A : Around) (outer : List PySem.Env) (s : Shared) (H : Hp) (E : XK) : Cx :=
  (cxOf (L2N.CX P w) P w K mg base N x (defScope st) f cdv A outer s H E).nox
theorem def_fn {P : Program} {w : World} {K : PySem.W.Frag} {mg : Str → Option Value} {base : Heap} {k : Nat} {x : Str} {st : Stmt} {f : Addr} {fd : FuncData} {N ps : List Str} {sp : SpD} {t : DS} (F : FunD K x x (defArgs st) (defBody st) (defScope st) [] [] f fd) (S : FnScope N ps (defScope st))
    (hb : ∀ f cdv A outer s H E, Room k (A.deeper (envOfC x (defScope st) s.heap.objs.size f cdv)) → PDSs (bodyCx P w K mg base N x st f cdv A outer s H E) (defBody st) t)
    (hr : ∀ ds M Q E, ds.length = ps.length → sp ds M Q E → t { nx := fun _ M' => Q .non M', rt := Q } (startD N ds) M) : FnOk P w K mg base (L2N.CX P w) (k + 1) f fd ps (upSp K ps.length sp) := by
  refine F.ok S (fun vs H Q E ⟨R, F, M, ds, Qd, Ed, _, r, hl, _⟩ => by rw [← r.length, hl]) (fun cdv A outer s H vs Q E hroom h => ?_)
  obtain ⟨R, F', M, ds, Qd, Ed, a, r, hl, hsp, kd, kx⟩ := h
  refine ⟨_, (hb f cdv A outer s H E hroom).nox, R, F', startD N ds, M, { nx := fun _ M' => Qd .non M', rt := Qd }, a, start_env r, hr ds M Qd Ed hl hsp, ⟨fun F1 H1 M1 env1 σ1 s1 a1 e1 q => kd F1 H1 M1 .non .non s1 a1 rfl q, kd, fun _ _ _ _ _ _ _ _ q => q.elim, fun _ _ _ _ _ _ _ _ q => q.elim⟩⟩
theorem def_ok {P : Program} {w : World} {K : PySem.W.Frag} {mg : Str → Option Value} {base : Heap} {k : Nat} {x : Str} {st : Stmt} {N ps : List Str} {sp : SpD} {t : DS} (d : DefAt K mg x st) (S : FnScope N ps (defScope st))
    (bind : ∀ (kV doc pm : Value) (an : Option Addr) (cdv ct : Value) (us : List Value), us.length = ps.length → bindArgs (PySem.W.fnOf x x (defArgs st) (defBody st) (defScope st) .none kV doc pm an cdv ct) ⟨us, []⟩ = pure (ps.zip us))
    (hb : ∀ f cdv A outer s H E, Room k (A.deeper (envOfC x (defScope st) s.heap.objs.size f cdv)) → PDSs (bodyCx P w K mg base N x st f cdv A outer s H E) (defBody st) t)
    (hr : ∀ ds M Q E, ds.length = ps.length → sp ds M Q E → t { nx := fun _ M' => Q .non M', rt := Q } (startD N ds) M) : DefOk P w K mg base (k + 1) x ps.length sp := by
  obtain ⟨f, fd, F, hm⟩ := d.ex
  exact ⟨f, fd, ps, def_fn F S hb hr, rfl, hm, F.kp, F.bindsN bind⟩
/-- a promise that nobody can ask for -/
theorem def_void {P : Program} {w : World} {K : PySem.W.Frag} {mg : Str → Option Value} {base : Heap} {k : Nat} {x : Str} {st : Stmt} {ps : List Str} {sp : SpD} (d : DefAt K mg x st)
    (bind : ∀ (kV doc pm : Value) (an : Option Addr) (cdv ct : Value) (us : List Value), us.length = ps.length → bindArgs (PySem.W.fnOf x x (defArgs st) (defBody st) (defScope st) .none kV doc pm an cdv ct) ⟨us, []⟩ = pure (ps.zip us))
    (z : ∀ ds M Q E, sp ds M Q E → False) : DefOk P w K mg base k x ps.length sp := by
  obtain ⟨f, fd, F, hm⟩ := d.ex
  exact ⟨f, fd, ps, ⟨fun vs H Q E ⟨R, F, M, ds, Qd, Ed, _, r, hl, _⟩ => by rw [← r.length, hl], fun A outer s H args us vs Q E _ _ _ _ ⟨R, F, M, ds, Qd, Ed, _, r, hl, h, _⟩ => (z _ _ _ _ h).elim⟩, rfl, hm, F.kp, F.bindsN bind⟩
section
variable {X : Cx} {e : Expr} {es : List Expr} {te ta tb : DE} {t : DA} {pos p : Pos} {a b : Expr}
def dCall (sp : SpD) (t : DA) : DE := fun env M Q => t env M fun ds M1 => sp ds M1 Q X0
theorem pd_call {k : Nat} {x : Str} {n : Nat} {sp : SpD} (d : DefOk X.prog X.w X.K X.mg X.base k x n sp) (hr : Room k X.A) (ha : PDA X (e :: es) t) (hn : (e :: es).length = n := by rfl) (hg : Gl X x := by rfl)
    (hdb : (x == ("__debug__" : Str)) = false := by decide) (he : starEach (e :: es) X.env = (false, eval e X.env) :: starEach es X.env := by rfl) (hpl : (backTo pos (starEach es X.env)).any (·.1) = false := by rfl) :
    PDE X (.Call (.Name x p) (e :: es) [] pos) (dCall sp t) := by
  obtain ⟨f, fd, ps, F, hl, hm, hk, hb⟩ := d.ex
  refine pe_imp (pe_call F hr hg hm hk hb .nil passE0 ha hdb he hpl) fun σ H Q ⟨R, F, env, M, Qd, a, e, h, k⟩ => ⟨R, F, env, M, _, a, e, h, fun F1 H1 M1 ds vs s1 a1 r1 l1 q1 => ?_⟩
  show upSp X.K n sp (vs ++ []) H1 Q E0
  rw [List.append_nil]
  exact ⟨R, F1, M1, ds, Qd, X0, a1, r1, by rw [l1, hn], q1, k.mono s1, kx0⟩
theorem pd_call0 {k : Nat} {x : Str} {sp : SpD} (d : DefOk X.prog X.w X.K X.mg X.base k x 0 sp) (hr : Room k X.A) (hg : Gl X x := by rfl)
    (hdb : (x == ("__debug__" : Str)) = false := by decide) : PDE X (.Call (.Name x p) [] [] pos) (dCall sp dNil) := by
  obtain ⟨f, fd, ps, F, hl, hm, hk, hb⟩ := d.ex
  refine pe_imp (pe_call0 F hr hg hm hk hb .nil passE0 hdb) fun σ H Q ⟨R, F, env, M, Qd, a, e, h, k⟩ => ?_
  exact ⟨R, F, M, [], Qd, X0, a, rfl, rfl, h, k, kx0⟩
theorem gives_list {K : PySem.W.Frag} {F : Hp} {a : Addr} {xs : List V} {ds : List D} (h : SqL K F a xs) (r : Reps K F ds xs) (hz : xs.length ≤ sizeLine) : Gives K (Itl K a) F ds := by
  refine ⟨by rw [r.length]; exact hz, fun R F' M H s a' => ⟨xs, a'.fz.seq (s.seq h), by rw [r.length]; exact Nat.le_refl _⟩, fun i d R F' M H s a' hi => ?_⟩
  obtain ⟨x, hx, rx⟩ := r.get hi
  refine ⟨⟨xs, x, a'.fz.seq (s.seq h), hx⟩, fun y H' ⟨e, q⟩ => ?_⟩
  have := q xs (a'.fz.seq (s.seq h))
  rw [hx] at this; cases this
  exact ⟨F', Same.refl _, by rw [e]; exact a', rx.mono s⟩
theorem gives_tup {K : PySem.W.Frag} {F : Hp} {a : Addr} {xs : List V} {ds : List D} (h : SqT K F a xs) (r : Reps K F ds xs) (hz : xs.length ≤ sizeLine) : Gives K (Itt K a) F ds := by
  refine ⟨by rw [r.length]; exact hz, fun R F' M H s a' => ⟨xs, Same.seqT a'.fz (Same.seqT s h), by rw [r.length]; exact Nat.le_refl _⟩, fun i d R F' M H s a' hi => ?_⟩
  obtain ⟨x, hx, rx⟩ := r.get hi
  refine ⟨⟨xs, x, Same.seqT a'.fz (Same.seqT s h), hx⟩, fun y H' ⟨e, q⟩ => ?_⟩
  have := q xs (Same.seqT a'.fz (Same.seqT s h))
  rw [hx] at this; cases this
  exact ⟨F', Same.refl _, by rw [e]; exact a', rx.mono s⟩
/-- one sign as a text -/
def sgn (c : Nat) : D := .str ⟨#[c]⟩
def signs (x : Str) : List D := x.cps.toList.map sgn
theorem sgn_ok {x : Str} (h : SOk x) {c : Nat} (hc : c ∈ x.cps.toList) : SOk ⟨#[c]⟩ :=
  ⟨by show 1 ≤ sizeLine; decide, fun d hd => by
    have e : d = c := by simpa using hd
    rw [e]; exact h.2 c hc⟩
theorem gives_str {K : PySem.W.Frag} {F : Hp} {x : Str} (h : SOk x) : Gives K (Its x) F (signs x) := by
  have hl : (signs x).length = x.cps.size := by unfold signs; simp
  refine ⟨by rw [hl]; exact h.1, fun R F' M H s a' => by show x.cps.size ≤ _; rw [hl]; exact Nat.le_refl _, fun i d R F' M H s a' hi => ?_⟩
  have hlt : i < (signs x).length := (List.getElem?_eq_some_iff.mp hi).1
  refine ⟨by show i < x.cps.size; rw [← hl]; exact hlt, fun y H' ⟨e, c, hc, ey⟩ => ⟨F', Same.refl _, by rw [e]; exact a', ?_⟩⟩
  subst ey
  have hc' : x.cps.toList[i]? = some c := by simpa using hc
  unfold signs at hi
  rw [List.getElem?_map, hc'] at hi
  cases hi
  exact ⟨rfl, sgn_ok h (List.mem_of_getElem? hc')⟩
def rng (lo : Int) (n : Nat) : List D := (List.range n).map fun (i : Nat) => D.int (lo + i)
theorem rng_length {lo : Int} {n : Nat} : (rng lo n).length = n := by simp [rng]
theorem gives_range {K : PySem.W.Frag} {F : Hp} {lo : Int} {n : Nat} (h : n ≤ sizeLine) : Gives K (Itr lo n) F (rng lo n) := by
  refine ⟨by rw [rng_length]; exact h, fun R F' M H s a' => by show n ≤ _; rw [rng_length]; exact Nat.le_refl _, fun i d R F' M H s a' hi => ?_⟩
  have hlt : i < n := by have := (List.getElem?_eq_some_iff.mp hi).1; rwa [rng_length] at this
  refine ⟨hlt, fun y H' ⟨e, ey⟩ => ⟨F', Same.refl _, by rw [e]; exact a', ?_⟩⟩
  unfold rng at hi
  rw [List.getElem?_map, List.getElem?_range hlt] at hi
  cases hi
  exact ey
/-- a frozen list -/
def iLst (te : DE) : DI := fun env M Q => te env M fun d M1 => match d with
  | .lst ds => Q ds M1
  | _ => False
def iTpl (te : DE) : DI := fun env M Q => te env M fun d M1 => match d with
  | .tup ds => Q ds M1
  | _ => False
def iTxt (te : DE) : DI := fun env M Q => te env M fun d M1 => match d with
  | .str x => Q (signs x) M1
  | _ => False
/-- the value with the heap that is held -/
theorem pe_held {t : TE} (h : PE X e t) : PE X e (fun σ H Q => t σ H fun v H1 => (∀ (pins : List (Addr × Obj)) (s : Shared) (σ : L2.St), Inv X pins σ H1 s → Q v H1)) :=
  ⟨fun pins s σ H Q I q => thn (h.run pins s σ H _ I q) fun u s1 ⟨v, H1, I1, r, q1⟩ => ⟨v, H1, I1, r, q1 pins s1 σ I1⟩⟩
theorem pa_held {ta : TA} (h : PA X es ta) : PA X es (fun σ H Q => ta σ H fun v H1 => (∀ (pins : List (Addr × Obj)) (s : Shared) (σ : L2.St), Inv X pins σ H1 s → Q v H1)) :=
  ⟨fun pos pins s σ H Q I q => thn (h.run pos pins s σ H _ I q) fun u s1 ⟨v, H1, I1, r, q1⟩ => ⟨v, H1, I1, r, q1 pins s1 σ I1⟩⟩
theorem pdi_lst {tg : Expr} (he : PDE X e te) : PDI X tg e (iLst te) := by
  refine pi_imp (pi_list (pe_held he)) fun σ H Z ⟨R, F, env, M, Qd, a, e, h, k⟩ => ⟨R, F, env, M, _, a, e, h, fun F1 H1 M1 d v s1 a1 r1 q1 pins s σ I => ?_⟩
  cases d with
  | lst ds =>
    obtain ⟨p, xs, rfl, hq', rx⟩ := r1
    have hq : SqL X.K F1 p xs := SqL.of hq'
    have hH := a1.fz.seq hq
    obtain ⟨its, rv, pl, hz⟩ := I.list hH
    exact ⟨p, rfl, ⟨xs, hH⟩, k F1 H1 M1 ds _ s1 a1 (gives_list hq rx hz) q1⟩
  | _ => exact q1.elim
theorem pdi_tup {tg : Expr} (he : PDE X e te) : PDI X tg e (iTpl te) := by
  refine pi_imp (pi_tup (pe_held he)) fun σ H Z ⟨R, F, env, M, Qd, a, e, h, k⟩ => ⟨R, F, env, M, _, a, e, h, fun F1 H1 M1 d v s1 a1 r1 q1 pins s σ I => ?_⟩
  cases d with
  | tup ds =>
    obtain ⟨p, xs, rfl, hq, rx⟩ := r1
    have hH := Same.seqT a1.fz hq
    obtain ⟨its, rv, pl, hz⟩ := I.tuple hH
    exact ⟨p, rfl, ⟨xs, hH⟩, k F1 H1 M1 ds _ s1 a1 (gives_tup hq rx hz) q1⟩
  | _ => exact q1.elim
theorem pdi_str {tg : Expr} (he : PDE X e te) : PDI X tg e (iTxt te) := by
  refine pi_imp (pi_str he) fun σ H Z ⟨R, F, env, M, Qd, a, e, h, k⟩ => ⟨R, F, env, M, _, a, e, h, fun F1 H1 M1 d v s1 a1 r1 q1 => ?_⟩
  cases d with
  | str x =>
    obtain ⟨rfl, hx⟩ := r1
    exact ⟨x, rfl, k F1 H1 M1 _ _ s1 a1 (gives_str hx) q1⟩
  | _ => exact q1.elim
def small (n : Int) : Prop := n ≤ 16777216
def iRange1 (t : DA) : DI := fun env M Q => t env M fun ds M1 => match ds with
  | [.int n] => (-16777216 ≤ n ∧ n ≤ 16777216) ∧ Q (rng 0 n.toNat) M1
  | _ => False
theorem pdi_range1 {tg : Expr} (hm : X.mg "range" = none) (ha : PDA X [a] t) (hg : Gl X "range" := by rfl) (hs : starEach [a] X.env = [(false, eval a X.env)] := by rfl) : PDI X tg (.Call (.Name "range" p) [a] [] pos) (iRange1 t) := by
  refine pi_imp (pi_range1 hg hm ha hs) fun σ H Z ⟨R, F, env, M, Qd, a, e, h, k⟩ => ⟨R, F, env, M, _, a, e, h, fun F1 H1 M1 ds vs s1 a1 r1 l1 q1 => ?_⟩
  split at q1
  · rename_i n
    obtain ⟨x, r, rfl, rx, rfl⟩ := r1
    obtain ⟨⟨b1, b2⟩, q1⟩ := q1
    exact ⟨n, by rw [show x = V.int n from rx], by omega, by omega, k F1 H1 M1 _ _ s1 a1 (gives_range (by rw [sizeLine_eq]; omega)) q1⟩
  · exact q1.elim
/-- a new tuple of each turn -/
theorem new_pair {K : PySem.W.Frag} {R F : Hp} {M : Mp} {H : Hp} {T : Addr} {d g : D} {x y : V} (a : At K R F M H) (hT : H T = none) (r1 : Rep K F d x) (r2 : Rep K F g y) : ∃ F2, Same F F2 ∧ At K R F2 M (upd H T (.tup [x, y])) ∧ Rep K F2 (.tup [d, g]) (.ref T) := by
  obtain ⟨a1, s1⟩ := a.laid hT (.tup [x, y])
  exact ⟨_, s1, a1, T, [x, y], rfl, SqT.of upd_same, x, [y], rfl, r1.mono s1, y, [], rfl, r2.mono s1, rfl⟩
/-- zip of two frozen lists, of two tuples -/
def iZipD (t : DA) : DI := fun env M Q => t env M fun ds M1 => match ds with
  | [.lst xs, .lst ys] => Q (List.zipWith (fun x y => .tup [x, y]) xs ys) M1
  | [.tup xs, .tup ys] => Q (List.zipWith (fun x y => .tup [x, y]) xs ys) M1
  | _ => False
theorem zip_at {xs ys : List D} {i : Nat} {d : D} (h : (List.zipWith (fun x y => D.tup [x, y]) xs ys)[i]? = some d) : ∃ x y, xs[i]? = some x ∧ ys[i]? = some y ∧ d = .tup [x, y] := by
  rw [List.getElem?_zipWith] at h
  cases hx : xs[i]? with
  | none => rw [hx] at h; cases h
  | some x =>
    cases hy : ys[i]? with
    | none => rw [hx, hy] at h; cases h
    | some y => rw [hx, hy] at h; cases h; exact ⟨x, y, rfl, rfl, rfl⟩
theorem pdi_zip {e2 : Expr} {elts : List Expr} {kk : Nat} {tpos : Pos} (hm : X.mg "zip" = none) (ha : PDA X [e, e2] t) (hg : Gl X "zip" := by rfl)
    (hs : starEach [e, e2] X.env = (false, eval e X.env) :: starEach [e2] X.env := by rfl) (hpl : (backTo pos (starEach [e2] X.env)).any (·.1) = false := by rfl) : PDI X (.Tuple elts kk tpos) (.Call (.Name "zip" p) [e, e2] [] pos) (iZipD t) := by
  refine pi_imp (RZ.pi_zipA hg hm (pa_held ha) hs hpl) fun σ H Z ⟨R, F, env, M, Qd, a, e, h, k⟩ => ⟨R, F, env, M, _, a, e, h, fun F1 H1 M1 ds vs s1 a1 r1 l1 q1 pins s σ I => ?_⟩
  split at q1
  · rename_i xs ys
    obtain ⟨_, _, rfl, ⟨p, vx, rfl, hx', rx⟩, _, _, rfl, ⟨p2, vy, rfl, hy', ry⟩, rfl⟩ := r1
    have hx : SqL X.K F1 p vx := SqL.of hx'
    have hy : SqL X.K F1 p2 vy := SqL.of hy'
    obtain ⟨_, _, _, hz⟩ := I.list (a1.fz.seq hx)
    have lx := rx.length
    have ly := ry.length
    refine ⟨p, p2, vx, vy, rfl, .inl ⟨a1.fz.seq hx, a1.fz.seq hy, k F1 H1 M1 _ _ s1 a1 ⟨by rw [List.length_zipWith]; omega, fun R F' M H s a' => ⟨vx, vy, a'.fz.seq (s.seq hx), a'.fz.seq (s.seq hy), by rw [List.length_zipWith]; omega⟩, fun i d R F' M H s a' hi => ?_⟩ q1⟩⟩
    obtain ⟨x, y, h1, h2, rfl⟩ := zip_at hi
    obtain ⟨u, hu, ru⟩ := rx.get h1
    obtain ⟨v, hv, rv⟩ := ry.get h2
    refine ⟨⟨vx, vy, u, v, a'.fz.seq (s.seq hx), a'.fz.seq (s.seq hy), hu, hv⟩, fun v' H' ⟨T, x', y', ev, hT, eH, z1, z2⟩ => ?_⟩
    have e1 := z1 vx (a'.fz.seq (s.seq hx)); rw [hu] at e1; cases e1
    have e2 := z2 vy (a'.fz.seq (s.seq hy)); rw [hv] at e2; cases e2
    subst ev eH
    exact new_pair a' hT (ru.mono s) (rv.mono s)
  · rename_i xs ys
    obtain ⟨_, _, rfl, ⟨p, vx, rfl, hx, rx⟩, _, _, rfl, ⟨p2, vy, rfl, hy, ry⟩, rfl⟩ := r1
    obtain ⟨_, _, _, hz⟩ := I.tuple (Same.seqT a1.fz hx)
    have lx := rx.length
    have ly := ry.length
    refine ⟨p, p2, vx, vy, rfl, .inr ⟨Same.seqT a1.fz hx, Same.seqT a1.fz hy, k F1 H1 M1 _ _ s1 a1 ⟨by rw [List.length_zipWith]; omega, fun R F' M H s a' => ⟨vx, vy, Same.seqT a'.fz (Same.seqT s hx), Same.seqT a'.fz (Same.seqT s hy), by rw [List.length_zipWith]; omega⟩, fun i d R F' M H s a' hi => ?_⟩ q1⟩⟩
    obtain ⟨x, y, h1, h2, rfl⟩ := zip_at hi
    obtain ⟨u, hu, ru⟩ := rx.get h1
    obtain ⟨v, hv, rv⟩ := ry.get h2
    refine ⟨⟨vx, vy, u, v, Same.seqT a'.fz (Same.seqT s hx), Same.seqT a'.fz (Same.seqT s hy), hu, hv⟩, fun v' H' ⟨T, x', y', ev, hT, eH, z1, z2⟩ => ?_⟩
    have e1 := z1 vx (Same.seqT a'.fz (Same.seqT s hx)); rw [hu] at e1; cases e1
    have e2 := z2 vy (Same.seqT a'.fz (Same.seqT s hy)); rw [hv] at e2; cases e2
    subst ev eH
    exact new_pair a' hT (ru.mono s) (rv.mono s)
  · exact q1.elim
def r2I (C : Int → Int → Prop) (g : Int → Int → D) : R2D := fun d e M Q => match d, e with
  | .int i, .int j => C i j ∧ Q (g i j) M
  | _, _ => False
def r2J (g : Int → Int → D) : R2D := fun d e M Q => match d, e with
  | .int i, .int j => Q (g i j) M
  | _, _ => False
abbrev rSubI : R2D := r2J fun i j => .int (i - j)
abbrev rMulI : R2D := r2I CMul fun i j => .int (i * j)
abbrev rModI : R2D := r2I (fun _ j => 0 < j) fun i j => .int (i % j)
abbrev rPowI : R2D := r2I CPow fun i j => .int (i ^ j.toNat)
abbrev rLtI : R2D := r2J fun i j => .bl (decide (i < j))
abbrev rLeI : R2D := r2J fun i j => .bl (decide (i ≤ j))
abbrev rGtI : R2D := r2J fun i j => .bl (decide (j < i))
abbrev rGeI : R2D := r2J fun i j => .bl (decide (j ≤ i))
theorem opd_int {f : Value → Value → Sem Value} {C : Int → Int → Prop} {g : Int → Int → V} {gd : Int → Int → D} (h : OpR X f (rI C g)) (hg : ∀ K F i j, Rep K F (gd i j) (g i j)) : OpD X f (r2I C gd) :=
  ⟨_, h, fun R F M H d e x y Qd Q a r1 r2 q k => by
    unfold r2I at q
    split at q
    · rename_i i j
      exact ⟨i, j, r1, r2, q.1, k F H M _ _ (Same.refl _) a (hg _ _ _ _) q.2⟩
    · exact q.elim⟩
theorem opd_int0 {f : Value → Value → Sem Value} {g : Int → Int → V} {gd : Int → Int → D} (h : OpR X f (rI0 g)) (hg : ∀ K F i j, Rep K F (gd i j) (g i j)) : OpD X f (r2J gd) :=
  ⟨_, h, fun R F M H d e x y Qd Q a r1 r2 q k => by
    unfold r2J at q
    split at q
    · rename_i i j
      exact ⟨i, j, r1, r2, k F H M _ _ (Same.refl _) a (hg _ _ _ _) q⟩
    · exact q.elim⟩
theorem opd_subI : OpD X (binaryOp .Sub) rSubI := opd_int0 op_sub fun _ _ _ _ => rfl
theorem opd_mulI : OpD X (binaryOp .Mult) rMulI := opd_int op_mul fun _ _ _ _ => rfl
theorem opd_mod : OpD X (binaryOp .Mod) rModI := opd_int op_mod fun _ _ _ _ => rfl
theorem opd_pow : OpD X (binaryOp .Pow) rPowI := opd_int op_pow fun _ _ _ _ => rfl
theorem opd_lt : OpD X (compareOp .Lt) rLtI := opd_int0 op_lt fun _ _ _ _ => rfl
theorem opd_le : OpD X (compareOp .LtE) rLeI := opd_int0 op_le fun _ _ _ _ => rfl
theorem opd_gt : OpD X (compareOp .Gt) rGtI := opd_int0 op_gt fun _ _ _ _ => rfl
theorem opd_ge : OpD X (compareOp .GtE) rGeI := opd_int0 op_ge fun _ _ _ _ => rfl
end
end L3
set_option Elab.async false
set_option linter.all false
set_option maxRecDepth 100000
set_option maxHeartbeats 1000000
namespace L3
open PySem PySem.Spec PyProof.Rows L2
mutual
def D.py : D → PyData
  | .non => .none
  | .bl b => .bool b
  | .int i => .int i
  | .str x => .str x
  | .tup ds => .tuple (D.pys ds)
  | .lst ds => .list (D.pys ds)
  | _ => .none
def D.pys : List D → List PyData
  | [] => []
  | d :: ds => D.py d :: D.pys ds
end
mutual
/-- no references within, at most n deep -/
def D.le : Nat → D → Bool
  | _, .non => true
  | _, .bl _ => true
  | _, .int _ => true
  | _, .str _ => true
  | n + 1, .tup ds => D.les n ds
  | n + 1, .lst ds => D.les n ds
  | _, _ => false
def D.les : Nat → List D → Bool
  | _, [] => true
  | n, d :: ds => D.le n d && D.les n ds
end
def eqD (d e : D) : Bool := PyData.eqv d.py e.py
section
variable {K : PySem.W.Frag} {F : Hp}
mutual
theorem py_dp : ∀ {n : Nat} {d : D} {v : V}, Rep K F d v → D.le n d = true → Dp K F v d.py ∧ d.py.canLay0 = true ∧ d.py.depth ≤ n + 1
  | n, .non, _, r, _ => by cases r; exact ⟨.non, rfl, by simp [D.py, PyData.depth]⟩
  | n, .bl b, _, r, _ => by cases r; exact ⟨.bl b, rfl, by simp [D.py, PyData.depth]⟩
  | n, .int i, _, r, _ => by cases r; exact ⟨.int i, rfl, by simp [D.py, PyData.depth]⟩
  | n, .str x, _, ⟨r, z⟩, _ => by
    cases r
    refine ⟨.str x, ?_, by simp [D.py, PyData.depth]⟩
    simp only [D.py, PyData.canLay0, PyData.strOk, Array.all_eq_true]
    intro i hi
    exact decide_eq_true (z.2 _ (by simp))
  | n + 1, .tup ds, _, ⟨a, xs, e, q, r⟩, h => by
    subst e
    obtain ⟨h1, h2, h3⟩ := pys_dp r (show D.les n ds = true by simpa [D.le] using h)
    exact ⟨.tup q h1, by simpa [D.py, PyData.canLay0] using h2, by simp only [D.py, PyData.depth]; omega⟩
  | n + 1, .lst ds, _, ⟨a, xs, e, q, r⟩, h => by
    subst e
    obtain ⟨h1, h2, h3⟩ := pys_dp r (show D.les n ds = true by simpa [D.le] using h)
    exact ⟨.lst (SqL.of q) h1, by simpa [D.py, PyData.canLay0] using h2, by simp only [D.py, PyData.depth]; omega⟩
  | 0, .tup ds, _, _, h => by simp [D.le] at h
  | 0, .lst ds, _, _, h => by simp [D.le] at h
  | _, .ref _, _, _, h => by simp [D.le] at h
  | _, .ty _, _, _, h => by simp [D.le] at h
  | _, .lsk _, _, _, h => by simp [D.le] at h
  | _, .dct _ _, _, _, h => by simp [D.le] at h
  | _, .obj _ _, _, _, h => by simp [D.le] at h
  | _, .dkd _ _ _, _, _, h => by simp [D.le] at h
  | _, .exc _ _ _ _, _, _, h => by simp [D.le] at h
  | _, .fn _ _ _, _, _, h => by simp [D.le] at h
theorem pys_dp : ∀ {n : Nat} {ds : List D} {vs : List V}, Reps K F ds vs → D.les n ds = true → DpAll K F vs (D.pys ds) ∧ PyData.canLayAll0 (D.pys ds) = true ∧ PyData.depthAll (D.pys ds) ≤ n + 1
  | n, [], _, r, _ => by cases r; exact ⟨.nil, by simp [D.pys, PyData.canLayAll0], by simp [D.pys, PyData.depthAll]⟩
  | n, d :: ds, _, ⟨x, r, e, r1, r2⟩, h => by
    subst e
    have h' : D.le n d = true ∧ D.les n ds = true := by simpa [D.les] using h
    obtain ⟨a1, a2, a3⟩ := py_dp r1 h'.1
    obtain ⟨b1, b2, b3⟩ := pys_dp r2 h'.2
    exact ⟨.cons a1 b1, by simp [D.pys, PyData.canLayAll0, a2, b2], by simp only [D.pys, PyData.depthAll]; omega⟩
end
theorem py_shaped {d : D} {v : V} (r : Rep K F d v) (h : D.le 60 d = true) : Dp K F v d.py ∧ SeqAt.shaped d.py = true := by
  obtain ⟨h1, h2, h3⟩ := py_dp r h
  exact ⟨h1, by unfold SeqAt.shaped; rw [h2, decide_eq_true (by omega)]; rfl⟩
end
theorem dp_mono {K : PySem.W.Frag} {F H : Hp} (s : Same F H) {v : V} {d : PyData} (h : Dp K F v d) : Dp K H v d := by
  refine Dp.rec (motive_1 := fun v d _ => Dp K H v d) (motive_2 := fun vs ds _ => DpAll K H vs ds) ?_ ?_ ?_ ?_ ?_ ?_ ?_ ?_ h
  · exact .non
  · exact .bl
  · exact .int
  · exact .str
  · intro a xs ds q _ ih; exact .lst (s.seq q) ih
  · intro a xs ds q _ ih; exact .tup (Same.seqT s q) ih
  · exact .nil
  · intro v vs d ds _ _ i1 i2; exact .cons i1 i2
/-- an own list that is held by a reference, as it stands -/
def resD (M : Mp) (d : D) : D := match d with
  | .ref q => match M q with
    | some (.lst ds) => .lst ds
    | _ => d
  | _ => d
/-- .. and where it stands in the heap -/
theorem res_rep {K : PySem.W.Frag} {R F : Hp} {M : Mp} {H : Hp} {d : D} {v : V} (a : At K R F M H) (r : Rep K F d v) : Rep K H (resD M d) v := by
  unfold resD
  split
  · rename_i q
    split
    · rename_i ds hm
      obtain ⟨_, u, hu, xs, rfl, rx⟩ := a.mu _ _ hm
      exact ⟨q, xs, r, hu, rx.mono a.fz⟩
    · exact r
  · exact r.mono a.fz
/-- a dict as it stands -/
def resK (M : Mp) (d : D) : Option (List L2.Key × List D) := match d with
  | .dct ks ds => some (ks, ds)
  | .ref q => match M q with
    | some (.dct ks ds) => some (ks, ds)
    | _ => none
  | _ => none
theorem resK_at {K : PySem.W.Frag} {R F : Hp} {M : Mp} {H : Hp} {d : D} {v : V} {ks : List L2.Key} {ds : List D} (a : At K R F M H) (r : Rep K F d v) (h : resK M d = some (ks, ds)) :
    ∃ p xs, v = .ref p ∧ Rd H p (.dK (ks.zip xs)) ∧ KsOk ks ds ∧ Reps K F ds xs := by
  unfold resK at h
  split at h
  · cases h
    obtain ⟨p, o, xs, rfl, hq, l, rx⟩ := r
    exact ⟨p, xs, rfl, .inr ⟨o, a.fz _ _ hq⟩, l, rx⟩
  · split at h
    · rename_i hm
      cases h
      obtain ⟨_, u, hu, xs, rfl, l, rx⟩ := a.mu _ _ hm
      exact ⟨_, xs, r, .inl hu, l, rx⟩
    · cases h
  · cases h
theorem resK_get {K : PySem.W.Frag} {R F : Hp} {M : Mp} {H : Hp} {d e : D} {x y : V} {ks : List L2.Key} {ds : List D} {k : L2.Key} (a : At K R F M H) (r : Rep K F d x) (r2 : Rep K F e y) (h : resK M d = some (ks, ds)) (hk : keyD e = some k) :
    ∃ p o, x = .ref p ∧ DGet H p y o ∧ (∀ g, findK ks ds k = some g → ∃ v, o = some v ∧ Rep K F g v) ∧ (findK ks ds k = none → o = none) := by
  obtain ⟨p, xs, rfl, hr, l, rx⟩ := resK_at a r h
  obtain ⟨h1, h2⟩ := findK_some (j := k) l.1 rx
  exact ⟨p, _, rfl, .inl ⟨_, k, hr, keyD_ok r2 hk, rfl⟩, h1, h2⟩
def rEqDD (g : Bool → Bool) : R2D := fun d e M Q => (D.le 60 (resD M d) = true ∧ D.le 60 (resD M e) = true) ∧ Q (.bl (g (eqD (resD M d) (resD M e)))) M
section
variable {X : Cx}
theorem opd_eq {k : Nat} (hr : Room k X.A) : OpD X (compareOp .Eq) (rEqDD id) := ⟨_, op_eqD hr.units, fun R F M H d e x y Qd Q a r1 r2 ⟨⟨l1, l2⟩, q⟩ kd => by
  obtain ⟨d1, s1⟩ := py_shaped (res_rep a r1) l1
  obtain ⟨d2, s2⟩ := py_shaped (res_rep a r2) l2
  exact ⟨_, _, d1, d2, s1, s2, kd F H M (.bl _) _ (Same.refl _) a rfl q⟩⟩
theorem opd_ne {k : Nat} (hr : Room k X.A) : OpD X (compareOp .NotEq) (rEqDD not) := ⟨_, op_neD hr.units, fun R F M H d e x y Qd Q a r1 r2 ⟨⟨l1, l2⟩, q⟩ kd => by
  obtain ⟨d1, s1⟩ := py_shaped (res_rep a r1) l1
  obtain ⟨d2, s2⟩ := py_shaped (res_rep a r2) l2
  exact ⟨_, _, d1, d2, s1, s2, kd F H M (.bl _) _ (Same.refl _) a rfl q⟩⟩
/-- is None, is not None -/
def isNonD : D → Bool
  | .non => true
  | _ => false
theorem isNonD_ok {K : PySem.W.Frag} {F : Hp} {d : D} {v : V} (r : Rep K F d v) : decide (v = .non) = isNonD d := by
  cases d with
  | non => cases r; rfl
  | bl b => cases r; rfl
  | int b => cases r; rfl
  | str b => obtain ⟨r, _⟩ := r; cases r; rfl
  | ty b => cases r; rfl
  | ref b => cases r; rfl
  | tup ds => obtain ⟨_, _, rfl, _⟩ := r; rfl
  | lst ds => obtain ⟨_, _, rfl, _⟩ := r; rfl
  | lsk ds => obtain ⟨_, _, rfl, _⟩ := r; rfl
  | dct ks ds => obtain ⟨_, _, _, rfl, _⟩ := r; rfl
  | obj c ds => obtain ⟨_, _, _, rfl, _⟩ := r; rfl
  | dkd w ks ds => obtain ⟨_, _, _, rfl, _⟩ := r; rfl
  | exc p dd ns ds => obtain ⟨rfl, _⟩ := r; rfl
  | fn p c q => obtain ⟨rfl, _⟩ := r; rfl
def rIsD (g : Bool → Bool) : R2D := fun d e M Q => match e with
  | .non => Q (.bl (g (isNonD d))) M
  | _ => False
theorem opd_is : OpD X (compareOp .Is) (rIsD id) := ⟨_, op_isN, fun R F M H d e x y Qd Q a r1 r2 q kd => by
  cases e with
  | non => exact ⟨r2, by rw [isNonD_ok r1]; exact kd F H M (.bl _) _ (Same.refl _) a rfl q⟩
  | _ => exact q.elim⟩
theorem opd_isnot : OpD X (compareOp .IsNot) (rIsD not) := ⟨_, op_notN, fun R F M H d e x y Qd Q a r1 r2 q kd => by
  cases e with
  | non => exact ⟨r2, by rw [isNonD_ok r1]; exact kd F H M (.bl _) _ (Same.refl _) a rfl q⟩
  | _ => exact q.elim⟩
/-- + of ints, texts, tuples, frozen lists -/
def rAddD : R2D := fun d e M Q => match d, e with
  | .int i, .int j => Q (.int (i + j)) M
  | .str x, .str y => x.length + y.length ≤ sizeLine ∧ Q (.str (x ++ y)) M
  | .tup xs, .tup ys => xs.length + ys.length ≤ sizeLine ∧ Q (.tup (xs ++ ys)) M
  | .lst xs, .lst ys => xs.length + ys.length ≤ sizeLine ∧ Q (.lst (xs ++ ys)) M
  | _, _ => False
theorem sok_append {x y : Str} (h : SOk x) (h' : SOk y) (hz : x.length + y.length ≤ sizeLine) : SOk (x ++ y) := by
  have e : (x ++ y).cps = x.cps ++ y.cps := rfl
  refine ⟨by show (x ++ y).cps.size ≤ _; rw [e, Array.size_append]; exact hz, fun c hc => ?_⟩
  rw [e, Array.toList_append, List.mem_append] at hc
  exact hc.elim (h.2 c) (h'.2 c)
theorem opd_add : OpD X (binaryOp .Add) rAddD := ⟨_, op_add.or (op_add_str.or (op_catA.or op_cat)), fun R F M H d e x y Qd Q a r1 r2 q kd => by
  unfold rAddD at q
  split at q
  · rename_i i j
    exact .inl ⟨i, j, r1, r2, kd F H M (.int _) _ (Same.refl _) a rfl q⟩
  · rename_i z w
    exact .inr (.inl ⟨z, w, r1.1, r2.1, q.1, kd F H M (.str _) _ (Same.refl _) a ⟨rfl, sok_append r1.2 r2.2 q.1⟩ q.2⟩)
  · rename_i xs ys
    obtain ⟨p, vx, rfl, hx, rx⟩ := r1
    obtain ⟨p2, vy, rfl, hy, ry⟩ := r2
    have lx := rx.length
    have ly := ry.length
    refine .inr (.inr (.inl ⟨p, p2, vx, vy, rfl, rfl, Same.seqT a.fz hx, Same.seqT a.fz hy, by omega, fun e => ?_, fun _ e => ?_, fun _ _ P hP => tup_new a (rx.append ry) kd q.2 hP⟩))
    · have : xs = [] := List.eq_nil_of_length_eq_zero (by rw [lx, e]; rfl)
      subst this
      exact kd F H M (.tup ys) _ (Same.refl _) a ⟨p2, vy, rfl, hy, ry⟩ q.2
    · have : ys = [] := List.eq_nil_of_length_eq_zero (by rw [ly, e]; rfl)
      subst this
      exact kd F H M (.tup xs) _ (Same.refl _) a ⟨p, vx, rfl, hx, rx⟩ (by have := q.2; rwa [List.append_nil] at this)
  · rename_i xs ys
    obtain ⟨p, vx, rfl, hx, rx⟩ := r1
    obtain ⟨p2, vy, rfl, hy, ry⟩ := r2
    have lx := rx.length
    have ly := ry.length
    exact .inr (.inr (.inr ⟨p, p2, vx, vy, rfl, rfl, a.fz _ _ hx, a.fz _ _ hy, by omega, fun P hP => lst_new a (rx.append ry) kd q.2 hP⟩))
  · exact q.elim⟩
/-- x in xs -/
def strIn (x y : Str) : Bool := !(Builtin.Str.occurrences y x 0 y.length 1).isEmpty
def rInK (g : Bool → Bool) (d e : D) (M : Mp) (Q : DK) : Prop := match resK M e with
  | some (ks, ds) => match keyD d with
    | some k => Q (.bl (g (findK ks ds k).isSome)) M
    | none => False
  | none => False
def rInDD (g : Bool → Bool) : R2D := fun d e M Q => match resD M e with
  | .str y => match d with
    | .str x => Q (.bl (g (strIn x y))) M
    | _ => False
  | .lst ys => (D.le 60 d = true ∧ D.les 58 ys = true) ∧ Q (.bl (g (ys.any fun z => eqD z d))) M
  | .tup ys => (D.le 60 d = true ∧ D.les 58 ys = true) ∧ Q (.bl (g (ys.any fun z => eqD z d))) M
  | _ => rInK g d e M Q
theorem any_py (ys : List D) (d : D) : ((D.pys ys).any fun z => PyData.eqv z d.py) = ys.any fun z => eqD z d := by
  induction ys with
  | nil => rfl
  | cons y ys ih => simp only [D.pys, List.any_cons, ih, eqD]
theorem lst_shaped {K : PySem.W.Frag} {F : Hp} {ys : List D} {v : V} (r : Rep K F (.lst ys) v) (h : D.les 58 ys = true) : Dp K F v (.list (D.pys ys)) ∧ SeqAt.shaped (.list (D.pys ys)) = true := by
  obtain ⟨h1, h2, h3⟩ := py_dp (n := 59) r (by simpa [D.le] using h)
  simp only [D.py] at h1 h2 h3
  exact ⟨h1, by unfold SeqAt.shaped; rw [h2, decide_eq_true (by omega)]; rfl⟩
theorem tup_shaped {K : PySem.W.Frag} {F : Hp} {ys : List D} {v : V} (r : Rep K F (.tup ys) v) (h : D.les 58 ys = true) : Dp K F v (.tuple (D.pys ys)) ∧ SeqAt.shaped (.tuple (D.pys ys)) = true := by
  obtain ⟨h1, h2, h3⟩ := py_dp (n := 59) r (by simpa [D.le] using h)
  simp only [D.py] at h1 h2 h3
  exact ⟨h1, by unfold SeqAt.shaped; rw [h2, decide_eq_true (by omega)]; rfl⟩
/-- y in a dict -/
def rInT (g : Bool → Bool) : R2 := fun y x H Q => ∃ a o, x = .ref a ∧ DGet H a y o ∧ Q (.bl (g o.isSome)) H
theorem op_inT (hu : X.A.units + 1 < cLine) : OpR X (compareOp .In) (rInT id) := by
  intro pins s σ H y x v u Q I ry rx ⟨a, o, e, g, q⟩
  subst e
  obtain rfl : u = Value.ref a := rx
  exact d_in hu I g ry fun s' I' => ⟨.bl o.isSome, H, I', rfl, q⟩
theorem op_notinT (hu : X.A.units + 1 < cLine) : OpR X (compareOp .NotIn) (rInT not) := by
  intro pins s σ H y x v u Q I ry rx ⟨a, o, e, g, q⟩
  subst e
  obtain rfl : u = Value.ref a := rx
  exact d_notIn hu I g ry fun s' I' => ⟨.bl (!o.isSome), H, I', rfl, q⟩
theorem in_served {K : PySem.W.Frag} (g : Bool → Bool) {rS rL : R2} (hS : ∀ i j H (Q : VK), Q (.bl (g (!(Builtin.Str.occurrences j i 0 j.length 1).isEmpty))) H → rS (.str i) (.str j) H Q)
    (hL : ∀ x y (d : PyData) (ds : List PyData) H (Q : VK), Dp K H x d → (Dp K H y (.list ds) ∧ SeqAt.shaped (.list ds) = true ∨ Dp K H y (.tuple ds) ∧ SeqAt.shaped (.tuple ds) = true) → SeqAt.shaped d = true → Q (.bl (g (ds.any fun z => PyData.eqv z d))) H → rL x y H Q) :
    Serves2 K (rInDD g) (fun x y H Q => rS x y H Q ∨ rL x y H Q ∨ rInT g x y H Q) := fun R F M H d e x y Qd Q a r1 r2 q kd => by
  have r2' := res_rep a r2
  have key : rInK g d e M Qd → rInT g x y H Q := fun q => by
    unfold rInK at q
    split at q
    · rename_i ks ds hr
      split at q
      · rename_i k hk
        obtain ⟨p, o, rfl, hg, h1, h2⟩ := resK_get a r2 r1 hr hk
        refine ⟨p, o, rfl, hg, kd F H M (.bl (g o.isSome)) _ (Same.refl _) a rfl ?_⟩
        have eo : o.isSome = (findK ks ds k).isSome := by
          cases hf : findK ks ds k with
          | none => rw [h2 hf]; rfl
          | some z => obtain ⟨v, e, _⟩ := h1 z hf; rw [e]; rfl
        rw [eo]; exact q
      · exact q.elim
    · exact q.elim
  unfold rInDD at q
  split at q
  · rename_i z hz
    rw [hz] at r2'
    split at q
    · rename_i w
      obtain ⟨e1, _⟩ := r1
      obtain ⟨e2, _⟩ := r2'
      subst e1 e2
      exact .inl (hS w z H Q (kd F H M (.bl _) _ (Same.refl _) a rfl q))
    · exact q.elim
  · rename_i ys hz
    rw [hz] at r2'
    obtain ⟨⟨l1, l2⟩, q⟩ := q
    obtain ⟨d1, s1⟩ := py_shaped (r1.mono a.fz) l1
    obtain ⟨d2, s2⟩ := lst_shaped r2' l2
    exact .inr (.inl (hL x y _ _ H Q d1 (.inl ⟨d2, s2⟩) s1 (by rw [any_py]; exact kd F H M (.bl _) _ (Same.refl _) a rfl q)))
  · rename_i ys hz
    rw [hz] at r2'
    obtain ⟨⟨l1, l2⟩, q⟩ := q
    obtain ⟨d1, s1⟩ := py_shaped (r1.mono a.fz) l1
    obtain ⟨d2, s2⟩ := tup_shaped r2' l2
    exact .inr (.inl (hL x y _ _ H Q d1 (.inr ⟨d2, s2⟩) s1 (by rw [any_py]; exact kd F H M (.bl _) _ (Same.refl _) a rfl q)))
  · exact .inr (.inr (key q))
/-- .. in a tuple -/
def rInU (K : PySem.W.Frag) (g : Bool → Bool) : R2 := fun x y H Q => ∃ d ds, Dp K H x d ∧ Dp K H y (.tuple ds) ∧ SeqAt.shaped d = true ∧ SeqAt.shaped (.tuple ds) = true ∧ Q (.bl (g (ds.any fun z => PyData.eqv z d))) H
theorem op_inU (hu : X.A.units + 65 < cLine) : OpR X (compareOp .In) (rInU X.K id) := by
  intro pins s σ H x y v u Q I rx ry ⟨d, ds, hd, he, sd, se, q⟩
  obtain ⟨as, r1⟩ := Dp.reads I d x v hd rx
  obtain ⟨bs, r2⟩ := Dp.reads I (.tuple ds) y u he ry
  exact SeqAt.in_tuple_reads r2 r1 (SeqAt.canLay_of_shaped se) (SeqAt.canLay_of_shaped sd) (room_in_shaped sd hu) ⟨.bl (ds.any fun z => PyData.eqv z d), H, I, rfl, q⟩
theorem op_notinU (hu : X.A.units + 65 < cLine) : OpR X (compareOp .NotIn) (rInU X.K not) := by
  intro pins s σ H x y v u Q I rx ry ⟨d, ds, hd, he, sd, se, q⟩
  obtain ⟨as, r1⟩ := Dp.reads I d x v hd rx
  obtain ⟨bs, r2⟩ := Dp.reads I (.tuple ds) y u he ry
  exact SeqAt.notIn_tuple_reads r2 r1 (SeqAt.canLay_of_shaped se) (SeqAt.canLay_of_shaped sd) (room_in_shaped sd hu) ⟨.bl (!(ds.any fun z => PyData.eqv z d)), H, I, rfl, q⟩
theorem opd_in {k : Nat} (hr : Room k X.A) : OpD X (compareOp .In) (rInDD id) := ⟨_, op_in_str.or (((op_inD (by have := hr.un; omega)).or (op_inU (by have := hr.un; omega))).or (op_inT (by have := hr.un; omega))),
  in_served (rL := fun x y H Q => rInD X.K x y H Q ∨ rInU X.K id x y H Q) id (fun i j H Q q => ⟨i, j, rfl, rfl, q⟩) fun x y d ds H Q d1 d2 s1 q => d2.elim (fun z => .inl ⟨d, ds, d1, z.1, s1, z.2, q⟩) fun z => .inr ⟨d, ds, d1, z.1, s1, z.2, q⟩⟩
theorem opd_notin {k : Nat} (hr : Room k X.A) : OpD X (compareOp .NotIn) (rInDD not) := ⟨_, op_notin_str.or (((op_notInD (by have := hr.un; omega)).or (op_notinU (by have := hr.un; omega))).or (op_notinT (by have := hr.un; omega))),
  in_served (rL := fun x y H Q => rNotInD X.K x y H Q ∨ rInU X.K not x y H Q) not (fun i j H Q q => ⟨i, j, rfl, rfl, q⟩) fun x y d ds H Q d1 d2 s1 q => d2.elim (fun z => .inl ⟨d, ds, d1, z.1, s1, z.2, q⟩) fun z => .inr ⟨d, ds, d1, z.1, s1, z.2, q⟩⟩
variable {a b : Expr} {e : Expr} {es : List Expr} {te ta tb : DE} {t : DA} {pos p : Pos}
def rIxK (d e : D) (M : Mp) (Q : DK) : Prop := match resK M d with
  | some (ks, ds) => match keyD e with
    | some k => match findK ks ds k with
      | some x => Q x M
      | none => False
    | none => False
  | none => False
def rIxI (e : D) (xs : List D) (M : Mp) (Q : DK) : Prop := match e with
  | .int i => match atI xs i with
    | some x => Q x M
    | none => False
  | _ => False
def rIxD : R2D := fun d e M Q => match resD M d with
  | .tup ds => rIxI e ds M Q
  | .lst ds => rIxI e ds M Q
  | .str z => match e with
    | .int i => match atI z.cps.toList i with
      | some c => Q (sgn c) M
      | none => False
    | _ => False
  | _ => rIxK d e M Q
theorem atI_reps {K : PySem.W.Frag} {F : Hp} {ds : List D} {vs : List V} {i : Int} {d : D} (r : Reps K F ds vs) (h : atI ds i = some d) : ∃ v, atI vs i = some v ∧ Rep K F d v := by
  unfold atI at h ⊢
  rw [← r.length]
  cases e : ixN ds.length i with
  | none => rw [e] at h; cases h
  | some j => rw [e] at h; exact r.get h
theorem atI_mem {α : Type} {xs : List α} {i : Int} {v : α} (h : atI xs i = some v) : v ∈ xs := by
  unfold atI at h
  cases e : ixN xs.length i with
  | none => rw [e] at h; cases h
  | some j => rw [e] at h; exact List.mem_of_getElem? h
def rIxT2 : R2 := fun x y H Q => ∃ a v, x = .ref a ∧ DGet H a y (some v) ∧ Q v H
theorem ix_dT (hu : X.A.units + 1 < cLine) : IxR X rIxT2 := by
  intro value slice pins s σ H x y v u Q I rx ry ⟨a, w, e, g, q⟩ hs
  subst e
  obtain rfl : v = Value.ref a := rx
  exact tail_any (dict_typeIs I g) PySem.F.slot_dict_getitem.lookup (d_getItem hu I g ry fun w' s' I' r => ⟨w, H, I', r, q⟩) hs
theorem ixI_el {e : D} {xs : List D} {M : Mp} {Q : DK} (h : rIxI e xs M Q) : ∃ i x, e = .int i ∧ atI xs i = some x ∧ Q x M := by
  unfold rIxI at h
  split at h
  · split at h
    · rename_i hx; exact ⟨_, _, rfl, hx, h⟩
    · exact h.elim
  · exact h.elim
theorem ix_served {K : PySem.W.Frag} : Serves2 K rIxD (fun x y H Q => rIx K x y H Q ∨ rIxT2 x y H Q) := fun R F M H d e x y Qd Q a r1 r2 q kd => by
  -- an item of a frozen sequence is data; of an own one too
  have key : ∀ i ds g, e = .int i → (resD M d = .tup ds ∨ resD M d = .lst ds) → atI ds i = some g → Qd g M → rIx K x y H Q := by
    intro i ds g he hd hg qg
    subst he
    cases (show y = V.int i from r2)
    cases d with
    | tup es =>
      have e1 : es = ds := by rcases hd with z | z <;> cases z; rfl
      subst e1
      obtain ⟨P, vs, rfl, hq, r⟩ := r1
      obtain ⟨v, hv, rv⟩ := atI_reps r hg
      exact .inr (.inl ⟨P, vs, i, v, rfl, rfl, Same.seqT a.fz hq, hv, kd F H M g v (Same.refl _) a rv qg⟩)
    | lst es =>
      have e1 : es = ds := by rcases hd with z | z <;> cases z; rfl
      subst e1
      obtain ⟨P, vs, rfl, hq, r⟩ := r1
      obtain ⟨v, hv, rv⟩ := atI_reps r hg
      exact .inl ⟨P, vs, i, v, rfl, rfl, SqL.of (a.fz _ _ hq), hv, kd F H M g v (Same.refl _) a rv qg⟩
    | ref P =>
      cases (show x = V.ref P from r1)
      simp only [resD] at hd
      split at hd
      · rename_i es hm
        have e1 : es = ds := by rcases hd with z | z <;> cases z; rfl
        subst e1
        obtain ⟨_, u, hu, vs, rfl, r⟩ := a.mu _ _ hm
        obtain ⟨v, hv, rv⟩ := atI_reps r hg
        exact .inl ⟨P, vs, i, v, rfl, rfl, SqL.of hu, hv, kd F H M g v (Same.refl _) a rv qg⟩
      · rcases hd with z | z <;> cases z
    | _ => rcases hd with z | z <;> cases z
  unfold rIxD at q
  split at q
  · rename_i ds hd
    obtain ⟨i, g, he, hg, q⟩ := ixI_el q
    exact .inl (key i ds g he (.inl hd) hg q)
  · rename_i ds hd
    obtain ⟨i, g, he, hg, q⟩ := ixI_el q
    exact .inl (key i ds g he (.inr hd) hg q)
  · rename_i z hd
    split at q
    · rename_i i
      cases (show y = V.int i from r2)
      split at q
      · rename_i c hg
        have rz := res_rep a r1
        rw [hd] at rz
        exact .inl (.inr (.inr ⟨z, i, c, rz.1, rfl, rz.2.1, hg, kd F H M (sgn c) _ (Same.refl _) a ⟨rfl, sgn_ok rz.2 (atI_mem hg)⟩ q⟩))
      · exact q.elim
    · exact q.elim
  · unfold rIxK at q
    split at q
    · rename_i ks ds hr
      split at q
      · rename_i k hk
        split at q
        · rename_i g hg
          obtain ⟨p, o, rfl, hget, h1, _⟩ := resK_get a r1 r2 hr hk
          obtain ⟨v, rfl, rv⟩ := h1 g hg
          exact .inr ⟨p, v, rfl, hget, kd F H M g v (Same.refl _) a rv q⟩
        · exact q.elim
      · exact q.elim
    · exact q.elim
theorem pd_ix {k : Nat} (hr : Room k X.A) (ha : PDE X a ta) (hb : PDE X b tb) (hs : PlainIx b := by intro _ _; rfl) : PDE X (.Subscript a b pos) (dBin rIxD ta tb) := pe_imp (pe_ix (ix_seq.or (ix_dT (by have := hr.un; omega))) ha hb hs) (up_bin ix_served)
abbrev DO := DEnv → Mp → (Option Int → Mp → Prop) → Prop
def upO (K : PySem.W.Frag) (t : DO) : TO := fun σ H Z => ∃ R F env M Qd, At K R F M H ∧ EnvR K F σ env ∧ t env M Qd ∧ ∀ F' H' M' o, Same F F' → At K R F' M' H' → Qd o M' → Z o H'
abbrev PDO (X : Cx) (e : Option Expr) (t : DO) : Prop := PO X e (upO X.K t)
def dNoPart : DO := fun _ M Q => Q none M
def dPart (te : DE) : DO := fun env M Q => te env M fun d M1 => match d with
  | .int i => Q (some i) M1
  | _ => False
theorem po_imp {o : Option Expr} {t t' : TO} (h : PO X o t) (i : ∀ σ H Q, t' σ H Q → t σ H Q) : PO X o t' := ⟨fun pins s σ H Q I q => h.run pins s σ H Q I (i _ _ _ q)⟩
theorem pdo_none : PDO X none dNoPart := po_imp po_none fun σ H Z ⟨R, F, env, M, Qd, a, e, h, k⟩ => k F H M none (Same.refl _) a h
theorem pdo_some (he : PDE X e te) : PDO X (some e) (dPart te) := po_imp (po_some he) fun σ H Z ⟨R, F, env, M, Qd, a, e, h, k⟩ => ⟨R, F, env, M, _, a, e, h, fun F1 H1 M1 d v s1 a1 r1 q1 => by
  cases d with
  | int i => exact ⟨i, r1, k F1 H1 M1 _ s1 a1 q1⟩
  | _ => exact q1.elim⟩
def cut {α : Type} (xs : List α) (lo hi : Option Int) : List α := (xs.drop (HT.sIx xs.length 0 lo)).take (HT.sIx xs.length xs.length hi - HT.sIx xs.length 0 lo)
theorem cut_reps {K : PySem.W.Frag} {F : Hp} {ds : List D} {vs : List V} (r : Reps K F ds vs) (lo hi : Option Int) : Reps K F (cut ds lo hi) (cutV vs lo hi) := by
  unfold cut cutV
  rw [← r.length]
  exact (r.drop _).take _
def dSl (te : DE) (tl th : DO) : DE := fun env M Q => te env M fun d M1 => tl env M1 fun lo M2 => th env M2 fun hi M3 => match resD M3 d with
  | .tup ds => Q (.tup (cut ds lo hi)) M3
  | .lst ds => Q (.lst (cut ds lo hi)) M3
  | .lsk ds => Q (.lst (cut ds lo hi)) M3
  | .str x => Q (.str (cutS x lo hi)) M3
  | _ => False
theorem sok_cut {x : Str} (h : SOk x) (lo hi : Option Int) : SOk (cutS x lo hi) := ⟨Nat.le_trans (cutS_length x lo hi) h.1, fun c hc => h.2 c (by
  unfold cutS at hc
  exact List.mem_of_mem_drop (List.mem_of_mem_take (by simpa using hc)))⟩
theorem pd_slice {lo hi : Option Expr} {tl th : DO} {p2 : Pos} (he : PDE X e te) (hl : PDO X lo tl) (hu : PDO X hi th) : PDE X (.Subscript e (.Slice lo hi none p2) pos) (dSl te tl th) := by
  refine pe_imp (pe_slice (sl_tupA.or (sl_list.or sl_str)) he hl hu) fun σ H Q ⟨R, F, env, M, Qd, a, e, h, k⟩ => ⟨R, F, env, M, _, a, e, h, fun F1 H1 M1 d v s1 a1 r1 q1 =>
    ⟨R, F1, env, M1, _, a1, e.mono s1, q1, fun F2 H2 M2 lo s2 a2 q2 => ⟨R, F2, env, M2, _, a2, (e.mono s1).mono s2, q2, fun F3 H3 M3 hi s3 a3 q3 => ?_⟩⟩⟩
  have r3 := r1.mono (s2.trans s3)
  have k3 := k.mono ((s1.trans s2).trans s3)
  have rr := res_rep a3 r3
  split at q3
  · rename_i ds hd
    have ed : d = .tup ds := by
      cases d with
      | ref q =>
        simp only [resD] at hd
        split at hd <;> cases hd
      | _ => exact hd
    subst ed
    obtain ⟨P, xs, rfl, hq, rx⟩ := r3
    refine .inl ⟨P, xs, rfl, Same.seqT a3.fz hq, fun hw => ?_, fun _ T hT => tup_new a3 (cut_reps rx lo hi) k3 q3 hT⟩
    have ec : cut ds lo hi = ds := by
      unfold cut
      rw [rx.length, hw.1, hw.2, ← rx.length]
      simp
    rw [ec] at q3
    exact k3 F3 H3 M3 (.tup ds) _ (Same.refl _) a3 ⟨P, xs, rfl, hq, rx⟩ q3
  · rename_i ds hd
    rw [hd] at rr
    have rcut : ∃ P xs, v = .ref P ∧ H3 P = some (.lst xs) ∧ Reps X.K F3 ds xs := by
      cases d with
      | ref q =>
        simp only [resD] at hd
        split at hd
        · rename_i es hm
          cases hd
          obtain ⟨_, u, hu, xs, rfl, rx⟩ := a3.mu _ _ hm
          exact ⟨q, xs, r3, hu, rx⟩
        · cases hd
      | lst es =>
        cases hd
        obtain ⟨P, xs, rfl, hq, rx⟩ := r3
        exact ⟨P, xs, rfl, a3.fz _ _ hq, rx⟩
      | _ => cases hd
    obtain ⟨P, xs, rfl, hq, rx⟩ := rcut
    exact .inr (.inl ⟨P, xs, rfl, SqL.of hq, fun T hT => lst_new a3 (cut_reps rx lo hi) k3 q3 hT⟩)
  · rename_i ds hd
    have ed : d = .lsk ds := by
      cases d with
      | ref q =>
        simp only [resD] at hd
        split at hd <;> cases hd
      | _ => exact hd
    subst ed
    obtain ⟨P, xs, rfl, hq, rx⟩ := r3
    exact .inr (.inl ⟨P, xs, rfl, a3.fz.seq hq, fun T hT => lst_new a3 (cut_reps rx lo hi) k3 q3 hT⟩)
  · rename_i x hd
    rw [hd] at rr
    exact .inr (.inr ⟨x, rr.1, rr.2.1, k3 F3 H3 M3 (.str _) _ (Same.refl _) a3 ⟨rfl, sok_cut rr.2 lo hi⟩ q3⟩)
  · exact q3.elim
end
end L3
set_option Elab.async false
set_option linter.all false
set_option maxRecDepth 100000
set_option maxHeartbeats 1000000
namespace L3
open PySem PySem.Spec PyProof.Rows L2
section
variable {X : Cx} {a b o i : Expr} {e : Expr} {es : List Expr} {te ta tb to ti : DE} {t : DA} {pos p apos tpos : Pos}
def mLst (M : Mp) (d : D) (k : Addr → List D → Prop) : Prop := match d with
  | .ref q => match M q with
    | some (.lst ds) => k q ds
    | _ => False
  | _ => False
theorem mLst_at {K : PySem.W.Frag} {R F : Hp} {M : Mp} {H : Hp} {d : D} {v : V} {k : Addr → List D → Prop} (a : At K R F M H) (r : Rep K F d v) (h : mLst M d k) : ∃ q ds xs, v = .ref q ∧ M q = some (.lst ds) ∧ H q = some (.lst xs) ∧ Reps K F ds xs ∧ k q ds := by
  unfold mLst at h
  split at h
  · rename_i q
    split at h
    · rename_i ds hm
      obtain ⟨_, u, hu, xs, rfl, rx⟩ := a.mu _ _ hm
      exact ⟨q, ds, xs, r, hm, hu, rx, h⟩
    · exact h.elim
  · exact h.elim
/-- o[i] = e of an own list, of an own dict -/
def mIx (M : Mp) (o i v : D) (k : Mp → Prop) : Prop := match o with
  | .ref q => match M q with
    | some (.lst ds) => match i with
      | .int j => match ixN ds.length j with
        | some n => k (mupd M q (.lst (ds.set n v)))
        | none => False
      | _ => False
    | some (.dct ks ds) => match keyD i with
      | some j => ks.length < sizeLine ∧ k (mupd M q (.dct (addK ks j) (setK ks ds j v)))
      | none => False
    | _ => False
  | _ => False
def dSetIx (te to ti : DE) : DS := fun D env M => te env M fun v M1 => to env M1 fun o M2 => ti env M2 fun i M3 => mIx M3 o i v fun M4 => D.nx env M4
theorem PSet.or {t u : TSet} (h : PSet X t) (g : PSet X u) : PSet X (fun o i v H Q => t o i v H Q ∨ u o i v H Q) := by
  intro pins s σ H o i v ov iv w Q I ro ri rv q
  rcases q with q | q
  · exact h pins s σ H o i v ov iv w Q I ro ri rv q
  · exact g pins s σ H o i v ov iv w Q I ro ri rv q
def rSetT : V → V → V → Hp → (Hp → Prop) → Prop := fun o i v H Q => ∃ a H', o = .ref a ∧ DPut H a i v H' ∧ Q H'
theorem set_dT (hu : X.A.units + 1 < cLine) : PSet X rSetT := by
  intro pins s σ H o i v ov iv u Q I ro ri rv ⟨a, H', e, g, q⟩
  subst e
  obtain rfl : ov = Value.ref a := ro
  exact d_setItem hu I g ri rv fun s' I' => ⟨H', I', q⟩
theorem mIx_ok {K : PySem.W.Frag} {R F : Hp} {M : Mp} {H : Hp} {o i d : D} {x y v : V} {k : Mp → Prop} {Q : Hp → Prop} (a : At K R F M H) (ro : Rep K F o x) (ri : Rep K F i y) (rv : Rep K F d v) (h : mIx M o i d k)
    (hk : ∀ M' H', At K R F M' H' → k M' → Q H') : rSetL x y v H Q ∨ rSetT x y v H Q := by
  unfold mIx at h
  split at h
  · rename_i q
    cases (show x = V.ref q from ro)
    split at h
    · rename_i ds hm
      obtain ⟨_, u, hu, xs, rfl, rx⟩ := a.mu _ _ hm
      split at h
      · rename_i j
        split at h
        · rename_i n hn
          exact .inl ⟨q, xs, j, n, rfl, ri, hu, by rw [← rx.length]; exact hn, hk _ _ (a.wrote hm (o := .lst (ds.set n d)) ⟨_, rfl, rx.set n rv⟩) h⟩
        · exact h.elim
      · exact h.elim
    · rename_i ks ds hm
      obtain ⟨_, u, hu, xs, rfl, l, rx⟩ := a.mu _ _ hm
      split at h
      · rename_i j hj
        obtain ⟨ys, e1, e2⟩ := setK_zip (j := j) l.1 rx rv
        refine .inr ⟨q, _, rfl, .inl ⟨_, j, hu, keyD_ok ri hj, ?_, rfl⟩, hk _ _ (a.wrote hm (o := .dct (addK ks j) (setK ks ds j d)) ⟨ys, by rw [e1], l.set (keyD_sok ri hj), e2⟩) h.2⟩
        rw [List.length_zip, ← rx.length, ← l.1, Nat.min_self]
        exact h.1
      · exact h.elim
    · exact h.elim
  · exact h.elim
theorem pds_setIx {kk : Nat} (hr : Room kk X.A) (he : PDE X e te) (ho : PDE X o to) (hi : PDE X i ti)
    (ha : ∀ v, assign (.Subscript o i tpos) X.env v = (do
      let ov ← holding [v] (eval o X.env)
      let iv ← holding [v, ov] (eval i X.env)
      standAt tpos
      holding [v, ov, iv] (setItem ov iv v)
      release [v, ov, iv] []) := by intro _; rfl)
    (hs : swapsWithSole [.Subscript o i tpos] e pos.line X.env = pure false := by rfl) (hw : swappedStores [.Subscript o i tpos] e X.env = pure none := by rfl)
    (h1 : (assignEach [.Subscript o i tpos] X.env).map (·.2) = [assign (.Subscript o i tpos) X.env] := by rfl) : PDS X (.Assign [.Subscript o i tpos] e pos) (dSetIx te to ti) :=
  ps_imp (ps_asg he (pg_sub ho hi (PSet.or set_list (set_dT (by have := hr.un; omega))) ha) hs hw h1) fun D σ H ⟨R, F, env, M, Dd, a, e, h, k⟩ => ⟨R, F, env, M, _, a, e, h, fun F1 H1 M1 d v s1 a1 r1 q1 =>
    ⟨R, F1, env, M1, _, a1, e.mono s1, q1, fun F2 H2 M2 d2 v2 s2 a2 r2 q2 => ⟨R, F2, env, M2, _, a2, (e.mono s1).mono s2, q2, fun F3 H3 M3 d3 v3 s3 a3 r3 q3 =>
      mIx_ok a3 (r2.mono s3) r3 (r1.mono (s2.trans s3)) q3 fun M' H' a' q' => k.nx F3 _ _ env σ ((s1.trans s2).trans s3) a' (((e.mono s1).mono s2).mono s3) q'⟩⟩⟩
/-- methods of own lists -/
def dAppend (to te : DE) : DE := fun env M Q => to env M fun o M1 => (mLst M1 o fun _ _ => True) ∧ te env M1 fun d M2 => mLst M2 o fun q ds => ds.length < sizeLine ∧ Q .non (mupd M2 q (.lst (ds ++ [d])))
theorem mLst_ty {K : PySem.W.Frag} {R F : Hp} {M : Mp} {H : Hp} {d : D} {v : V} {k : Addr → List D → Prop} (a : At K R F M H) (r : Rep K F d v) (h : mLst M d k) : tyV K "list" v H := by
  obtain ⟨q, ds, xs, rfl, hm, hh, rx, _⟩ := mLst_at a r h
  exact .inl ⟨rfl, xs, SqL.of hh⟩
theorem pd_append (ho : PDE X o to) (he : PDE X e te) (hbase : attributeBase o "append" X.env (eval o X.env) = eval o X.env := by rfl)
    (hfew : ((backTo pos (starEach [e] X.env)).all (fun x => !x.1) && (backToKw pos (keywordEach [] X.env)).all (fun x => x.1.isSome)
      && decide ([e].length + ([] : List Keyword).length + (if ([] : List Keyword).isEmpty then 0 else 1) < 30)) = true := by rfl)
    (hline : (apos.endLine == pos.line) = true := by rfl) (hs : starEach [e] X.env = (false, eval e X.env) :: starEach [] X.env := by rfl) (hplain : (backTo pos (starEach [] X.env)).any (·.1) = false := by rfl) :
    PDE X (.Call (.Attribute o "append" apos) [e] [] pos) (dAppend to te) :=
  pe_imp (pe_bm PySem.F.plainAttrs_list PySem.F.slot_list_append PySem.F.type_list_append mt_append ho (pa_cons he pa_nil hs) hbase hfew hline hs hplain) fun σ H Q ⟨R, F, env, M, Qd, a, e, h, k⟩ =>
    ⟨R, F, env, M, _, a, e, h, fun F1 H1 M1 d v s1 a1 r1 q1 => ⟨mLst_ty a1 r1 q1.1, R, F1, env, M1, _, a1, e.mono s1, q1.2, fun F2 H2 M2 d2 v2 s2 a2 r2 q2 => by
      obtain ⟨q, ds, xs, rfl, hm, hh, rx, hz, q2⟩ := mLst_at a2 (r1.mono s2) q2
      exact ⟨q, xs, v2, rfl, rfl, hh, by rw [← rx.length]; exact hz, k F2 _ _ .non .non (s1.trans s2) (a2.wrote hm (o := .lst (ds ++ [d2])) ⟨_, rfl, rx.append (Reps.one r2)⟩) rfl q2⟩⟩⟩
abbrev R1D := D → Mp → DK → Prop
/-- a call of a built-in by its rule on data -/
def Serves1 (K : PySem.W.Frag) (r : R1D) (rV : List V → Hp → VK → Prop) : Prop := ∀ R F M H d x Qd Q, At K R F M H → Rep K F d x → r d M Qd → KD K R F Qd Q → rV [x] H Q
structure CallD (X : Cx) (f : Value) (r : R1D) : Prop where
  ex : ∃ rV, CallR X f rV ∧ Serves1 X.K r rV
theorem up_call1 {K : PySem.W.Frag} {r : R1D} {rV : List V → Hp → VK → Prop} (hs : Serves1 K r rV) : ∀ σ H Q, up K (dUn r ta) σ H Q → tCB rV (tCons (up K ta) tNil) σ H Q := fun σ H Q ⟨R, F, env, M, Qd, a, e, h, k⟩ =>
  ⟨R, F, env, M, _, a, e, h, fun F1 H1 M1 d v s1 a1 r1 h1 => hs R F1 M1 H1 d v Qd Q a1 r1 h1 (k.mono s1)⟩
theorem pd_bltn {x : Str} {f : String} {r : R1D} (hc : CallD X (.builtin f) r) (hm : X.mg x = none) (ha : PDE X a ta) (hv : bootBuiltins x = some (.builtin f) := by decide +kernel) (hg : Gl X x := by rfl) (hn : x ≠ "__name__" := by decide) (hdb : (x == ("__debug__" : Str)) = false := by decide)
    (he : starEach [a] X.env = (false, eval a X.env) :: starEach [] X.env := by rfl) (hpl : (backTo pos (starEach [] X.env)).any (·.1) = false := by rfl) : PDE X (.Call (.Name x p) [a] [] pos) (dUn r ta) := by
  obtain ⟨rV, h1, h2⟩ := hc.ex
  exact pe_imp (pe_callB h1 hg hm hv (pa_cons ha pa_nil he) hn hdb he hpl) (up_call1 h2)
theorem pd_type {x : Str} {f : String} {r : R1D} (hc : CallD X (.type f) r) (hm : X.mg x = none) (ha : PDE X a ta) (hv : bootBuiltins x = some (.type f) := by decide +kernel) (hg : Gl X x := by rfl) (hn : x ≠ "__name__" := by decide) (hdb : (x == ("__debug__" : Str)) = false := by decide)
    (he : starEach [a] X.env = (false, eval a X.env) :: starEach [] X.env := by rfl) (hpl : (backTo pos (starEach [] X.env)).any (·.1) = false := by rfl) : PDE X (.Call (.Name x p) [a] [] pos) (dUn r ta) := by
  obtain ⟨rV, h1, h2⟩ := hc.ex
  exact pe_imp (pe_callTy h1 hg hm hv (pa_cons ha pa_nil he) hn hdb he hpl) (up_call1 h2)
def rLenD : R1D := fun d M Q => match resD M d with
  | .tup ds => Q (.int ds.length) M
  | .lst ds => Q (.int ds.length) M
  | .str x => Q (.int x.length) M
  | _ => match resK M d with
    | some (ks, _) => Q (.int ks.length) M
    | none => False
/-- a sequence as it stands -/
theorem seq_at {K : PySem.W.Frag} {R F : Hp} {M : Mp} {H : Hp} {d : D} {v : V} (a : At K R F M H) (r : Rep K F d v) :
    (∀ {ds : List D}, resD M d = .lst ds → ∃ P xs, v = .ref P ∧ H P = some (.lst xs) ∧ Reps K F ds xs) ∧ (∀ {ds : List D}, resD M d = .tup ds → ∃ P xs, v = .ref P ∧ SqT K F P xs ∧ Reps K F ds xs) := by
  cases d with
  | ref q =>
    refine ⟨fun h => ?_, fun h => ?_⟩
    · simp only [resD] at h
      split at h
      · rename_i es hm
        cases h
        obtain ⟨_, u, hu, xs, rfl, rx⟩ := a.mu _ _ hm
        exact ⟨q, xs, r, hu, rx⟩
      · cases h
    · simp only [resD] at h
      split at h <;> cases h
  | lst es =>
    refine ⟨fun h => ?_, fun h => ?_⟩
    · cases h
      obtain ⟨P, xs, rfl, hq, rx⟩ := r
      exact ⟨P, xs, rfl, a.fz _ _ hq, rx⟩
    · cases h
  | tup es =>
    refine ⟨fun h => ?_, fun h => ?_⟩
    · cases h
    · cases h
      exact r
  | _ => refine ⟨fun h => ?_, fun h => ?_⟩ <;> cases h
/-- len of a dict, locked or not -/
theorem call_lenR : CallR X (.builtin "len") (fun xs H Q => ∃ a kvs, xs = [V.ref a] ∧ Rd H a (.dK kvs) ∧ Q (.int kvs.length) H) := by
  intro pins s σ H xs us Q I r ⟨a, kvs, e, ha, q⟩
  subst e
  rw [Vals.ref1 r]
  exact d_len I ha fun t s' I' => ⟨.int kvs.length, H, I', ⟨t, rfl⟩, q⟩
theorem calld_len : CallD X (.builtin "len") rLenD := ⟨_, (call_len_seq.or call_len_str).or call_lenR, fun R F M H d x Qd Q a r q kd => by
  unfold rLenD at q
  split at q
  · rename_i ds hd
    obtain ⟨P, xs, rfl, hq, rx⟩ := (seq_at a r).2 hd
    exact .inl (.inl ⟨P, xs, rfl, .inr (Same.seqT a.fz hq), kd F H M (.int _) _ (Same.refl _) a (by rw [rx.length]; rfl) q⟩)
  · rename_i ds hd
    obtain ⟨P, xs, rfl, hq, rx⟩ := (seq_at a r).1 hd
    exact .inl (.inl ⟨P, xs, rfl, .inl (SqL.of hq), kd F H M (.int _) _ (Same.refl _) a (by rw [rx.length]; rfl) q⟩)
  · rename_i z hd
    have rz := res_rep a r
    rw [hd] at rz
    exact .inl (.inr ⟨z, by rw [rz.1], rz.2.1, kd F H M (.int _) _ (Same.refl _) a rfl q⟩)
  · split at q
    · rename_i ks ds hk
      obtain ⟨P, xs, rfl, hq, l, rx⟩ := resK_at a r hk
      exact .inr ⟨P, _, rfl, hq, kd F H M (.int _) _ (Same.refl _) a (by rw [List.length_zip, ← rx.length, ← l.1, Nat.min_self]; rfl) q⟩
    · exact q.elim⟩
def asBls : List D → Option (List Bool)
  | [] => some []
  | .bl b :: r => (asBls r).map (b :: ·)
  | _ => none
theorem asBls_map : ∀ bs : List Bool, asBls (bs.map D.bl) = some bs
  | [] => rfl
  | b :: bs => by simp [asBls, asBls_map bs]
theorem asBls_ok : ∀ {ds : List D} {bs : List Bool}, asBls ds = some bs → ds = bs.map D.bl
  | [], bs, h => by cases h; rfl
  | d :: r, bs, h => by
    cases d with
    | bl b =>
      simp only [asBls, Option.map_eq_some_iff] at h
      obtain ⟨cs, h1, rfl⟩ := h
      rw [asBls_ok h1]; rfl
    | _ => simp [asBls] at h
def rAllD : R1D := fun d M Q => match resD M d with
  | .lst ds => match asBls ds with
    | some bs => Q (.bl (bs.all id)) M
    | none => False
  | _ => False
theorem calld_all (hc : X.calm = true := by rfl) : CallD X (.builtin "all") rAllD := ⟨_, cr_all hc, fun R F M H d x Qd Q a r q kd => by
  unfold rAllD at q
  split at q
  · rename_i ds hd
    split at q
    · rename_i bs hb
      obtain ⟨P, xs, rfl, hq, rx⟩ := (seq_at a r).1 hd
      rw [asBls_ok hb] at rx
      have := rx.bls
      subst this
      exact ⟨P, bs, rfl, SqL.of hq, kd F H M (.bl _) _ (Same.refl _) a rfl q⟩
    · exact q.elim
  · exact q.elim⟩
/-- list(xs), a frozen one -/
def rListD : R1D := fun d M Q => match resD M d with
  | .lst ds => Q (.lst ds) M
  | .tup ds => Q (.lst ds) M
  | _ => False
theorem calld_list : CallD X (.type "list") rListD := ⟨_, call_list_of, fun R F M H d x Qd Q a r q kd => by
  unfold rListD at q
  split at q
  · rename_i ds hd
    obtain ⟨P, xs, rfl, hq, rx⟩ := (seq_at a r).1 hd
    exact ⟨P, xs, rfl, .inl (SqL.of hq), fun l hl => lst_new a rx kd q hl⟩
  · rename_i ds hd
    obtain ⟨P, xs, rfl, hq, rx⟩ := (seq_at a r).2 hd
    exact ⟨P, xs, rfl, .inr (Same.seqT a.fz hq), fun l hl => lst_new a rx kd q hl⟩
  · exact q.elim⟩
def rTupleD : R1D := fun d M Q => match resD M d with
  | .lst ds => Q (.tup ds) M
  | .tup ds => Q (.tup ds) M
  | _ => False
theorem calld_tuple : CallD X (.type "tuple") rTupleD := ⟨_, call_tuple_of, fun R F M H d x Qd Q a r q kd => by
  unfold rTupleD at q
  split at q
  · rename_i ds hd
    obtain ⟨P, xs, rfl, hq, rx⟩ := (seq_at a r).1 hd
    exact ⟨P, xs, rfl, .inl ⟨SqL.of hq, fun l hl => tup_new a rx kd q hl⟩⟩
  · rename_i ds hd
    obtain ⟨P, xs, rfl, hq, rx⟩ := (seq_at a r).2 hd
    exact ⟨P, xs, rfl, .inr ⟨Same.seqT a.fz hq, kd F H M (.tup ds) _ (Same.refl _) a ⟨P, xs, rfl, hq, rx⟩ q⟩⟩
  · exact q.elim⟩
def asStrs : List D → Option (List Str)
  | [] => some []
  | .str b :: r => (asStrs r).map (b :: ·)
  | _ => none
theorem asStrs_map : ∀ bs : List Str, asStrs (bs.map D.str) = some bs
  | [] => rfl
  | b :: bs => by simp [asStrs, asStrs_map bs]
theorem asStrs_ok : ∀ {ds : List D} {bs : List Str}, asStrs ds = some bs → ds = bs.map D.str
  | [], bs, h => by cases h; rfl
  | d :: r, bs, h => by
    cases d with
    | str b =>
      simp only [asStrs, Option.map_eq_some_iff] at h
      obtain ⟨cs, h1, rfl⟩ := h
      rw [asStrs_ok h1]; rfl
    | _ => simp [asStrs] at h
theorem joinL_mem {S : List Nat} {c : Nat} : ∀ {ps : List (List Nat)}, c ∈ TL.joinL S ps → c ∈ S ∨ ∃ p ∈ ps, c ∈ p
  | [], h => by cases h
  | [p], h => .inr ⟨p, by simp, h⟩
  | p :: q :: r, h => by
    rcases List.mem_append.mp (show c ∈ p ++ (S ++ TL.joinL S (q :: r)) from h) with h | h
    · exact .inr ⟨p, by simp, h⟩
    · rcases List.mem_append.mp h with h | h
      · exact .inl h
      · rcases joinL_mem h with h | ⟨z, hz, h⟩
        · exact .inl h
        · exact .inr ⟨z, List.mem_cons_of_mem _ hz, h⟩
theorem joinL_len {S : List Nat} : ∀ (ps : List (List Nat)), (TL.joinL S ps).length ≤ (ps.map List.length).sum + ps.length * S.length
  | [] => by simp [TL.joinL]
  | [p] => by simp [TL.joinL]
  | p :: q :: r => by
    have ih := joinL_len (S := S) (q :: r)
    show (p ++ (S ++ TL.joinL S (q :: r))).length ≤ _
    have e : ((p :: q :: r).length) * S.length = (q :: r).length * S.length + S.length := by rw [List.length_cons, Nat.succ_mul]
    rw [e, List.map_cons, List.sum_cons, List.length_append, List.length_append]
    omega
theorem join_ok {a : Str} {ys : List Str} (ha : SOk a) (hy : ∀ y ∈ ys, SOk y) (hz : (ys.map (·.length)).sum + ys.length * a.length ≤ 16777216) : SOk (Txt.join a ys) := by
  have e : (Txt.join a ys).cps.toList = TL.joinL a.cps.toList (ys.map fun y => y.cps.toList) := by
    rw [TL.join_eq]; exact TL.tl_join a ys
  refine ⟨?_, fun c hc => ?_⟩
  · show (Txt.join a ys).cps.size ≤ _
    rw [← Array.length_toList, e, sizeLine_eq]
    refine Nat.le_trans (joinL_len _) ?_
    rw [List.map_map, List.length_map, Array.length_toList]
    exact hz
  · rw [e] at hc
    rcases joinL_mem hc with h | ⟨z, hz, h⟩
    · exact ha.2 c h
    · obtain ⟨y, hy', rfl⟩ := List.mem_map.mp hz
      exact (hy y hy').2 c h
theorem strs_ok {K : PySem.W.Frag} {F : Hp} : ∀ {ys : List Str} {vs : List V}, Reps K F (ys.map D.str) vs → ∀ y ∈ ys, SOk y
  | [], _, _, _, h => by cases h
  | z :: ys, _, ⟨x, r, e, h1, h2⟩, y, h => by
    rcases List.mem_cons.mp h with rfl | h
    · exact h1.2
    · exact strs_ok h2 y h
def dJoin (to te : DE) : DE := fun env M Q => to env M fun o M1 => match o with
  | .str a => te env M1 fun d M2 => match resD M2 d with
    | .lst ds => match asStrs ds with
      | some ys => (ys.map (·.length)).sum + ys.length * a.length ≤ 16777216 ∧ Q (.str (Txt.join a ys)) M2
      | none => False
    | _ => False
  | _ => False
theorem pd_join (ho : PDE X o to) (he : PDE X e te) (hs : starEach [e] X.env = [(false, eval e X.env)] := by rfl) (hbase : attributeBase o "join" X.env (eval o X.env) = eval o X.env := by rfl) (hline : (apos.endLine == pos.line) = true := by rfl) :
    PDE X (.Call (.Attribute o "join" apos) [e] [] pos) (dJoin to te) := by
  refine pe_imp (pe_join ho he hs hbase hline) fun σ H Q ⟨R, F, env, M, Qd, a, e, h, k⟩ => ⟨R, F, env, M, _, a, e, h, fun F1 H1 M1 d v s1 a1 r1 q1 => ?_⟩
  cases d with
  | str x =>
    obtain ⟨rfl, hx⟩ := r1
    refine ⟨⟨x, rfl⟩, R, F1, env, M1, _, a1, e.mono s1, q1, fun F2 H2 M2 d2 v2 s2 a2 r2 q2 => ?_⟩
    split at q2
    · rename_i ds hd
      split at q2
      · rename_i ys hy
        obtain ⟨P, xs, rfl, hq, rx⟩ := (seq_at a2 r2).1 hd
        have e1 := asStrs_ok hy
        subst e1
        have e2 := rx.strs
        subst e2
        exact ⟨x, P, ys, rfl, rfl, .inl (SqL.of hq), q2.1, k F2 H2 M2 (.str _) _ (s1.trans s2) a2 ⟨rfl, join_ok hx (strs_ok rx) q2.1⟩ q2.2⟩
      · exact q2.elim
    · exact q2.elim
  | _ => exact q1.elim
def tyD (M : Mp) (d : D) : Option String := match resD M d with
  | .non => some "NoneType"
  | .bl _ => some "bool"
  | .int _ => some "int"
  | .str _ => some "str"
  | .tup _ => some "tuple"
  | .lst _ => some "list"
  | _ => none
theorem sqt_ty {K : PySem.W.Frag} {H : Hp} {p : Addr} {xs : List V} (h : SqT K H p xs) : TyX K H (.ref p) (.type "tuple") := by
  rcases h with (h | ⟨o, h⟩) | ⟨o, its, n, hk, hc, _⟩
  · exact .base (.tup h)
  · exact .fTuple h
  · exact .kTuple hk hc
theorem tyD_ok {K : PySem.W.Frag} {R F : Hp} {M : Mp} {H : Hp} {d : D} {v : V} {T : String} (a : At K R F M H) (r : Rep K F d v) (h : tyD M d = some T) : TyX K H v (.type T) := by
  unfold tyD at h
  have rr := res_rep a r
  split at h <;> rename_i hd
  · rw [hd] at rr; cases h; cases (show v = .non from rr); exact .base .non
  · rw [hd] at rr; cases h; cases (show v = .bl _ from rr); exact .base (.bl _)
  · rw [hd] at rr; cases h; cases (show v = .int _ from rr); exact .base (.int _)
  · rw [hd] at rr; cases h; obtain ⟨rr, _⟩ := rr; cases rr; exact .base (.str _)
  · rw [hd] at rr; cases h; obtain ⟨p, xs, rfl, hq, _⟩ := rr; exact sqt_ty hq
  · rw [hd] at rr; cases h; obtain ⟨p, xs, rfl, hq, _⟩ := rr; exact .base (.lst hq)
  · cases h
inductive Ty where
  | list | tuple | bool | int | str
def Ty.name : Ty → String
  | .list => "list" | .tuple => "tuple" | .bool => "bool" | .int => "int" | .str => "str"
def isIn : Ty → D → Option Bool
  | .list, .lst _ => some true
  | .tuple, .tup _ => some true
  | .bool, .bl _ => some true
  | .int, .int _ => some true
  | .int, .bl _ => some true
  | .str, .str _ => some true
  | _, .non => some false
  | _, .bl _ => some false
  | _, .int _ => some false
  | _, .str _ => some false
  | _, .tup _ => some false
  | _, .lst _ => some false
  | _, _ => none
theorem isIn_ok {M : Mp} {d : D} {T : Ty} {b : Bool} (h : isIn T (resD M d) = some b) : ∃ t, tyD M d = some t ∧ kitB t T.name = some b := by
  unfold tyD
  generalize resD M d = x at h ⊢
  cases T <;> cases x <;> first
    | (cases h; exact ⟨_, rfl, by decide +kernel⟩)
    | cases h
/-- isinstance(e, T), T a built-in class -/
def dIsi (T : Ty) (te : DE) : DE := fun env M Q => te env M fun d M1 => match isIn T (resD M1 d) with
  | some b => Q (.bl b) M1
  | none => False
theorem pd_isi {T : Str} (t : Ty) {p2 : Pos} (hm : X.mg "isinstance" = none) (he : PDE X e te) (hT : X.mg T = none) (hv : bootBuiltins T = some (.type t.name) := by decide +kernel) (hg : Gl X "isinstance" := by rfl) (hgT : Gl X T := by rfl)
    (hn : T ≠ "__name__" := by decide) (hd : (T == ("__debug__" : Str)) = false := by decide)
    (hs : starEach [e, .Name T p2] X.env = (false, eval e X.env) :: starEach [.Name T p2] X.env := by rfl) (hs2 : starEach [.Name T p2] X.env = (false, eval (.Name T p2) X.env) :: starEach [] X.env := by rfl) (hpl : (backTo pos (starEach [.Name T p2] X.env)).any (·.1) = false := by rfl) :
    PDE X (.Call (.Name "isinstance" p) [e, .Name T p2] [] pos) (dIsi t te) :=
  pe_imp (pe_callB call_isi hg hm (by decide +kernel) (pa_cons he (pa_cons (pe_bltn (v := .ty t.name) hgT hT hv rfl hn hd) pa_nil hs2) hs) (by decide) (by decide) hs hpl) fun σ H Q ⟨R, F, env, M, Qd, a, e, h, k⟩ =>
    ⟨R, F, env, M, _, a, e, h, fun F1 H1 M1 d v s1 a1 r1 q1 => by
      split at q1
      · rename_i b hb
        obtain ⟨tt, ht, hb⟩ := isIn_ok hb
        exact ⟨v, .ty t.name, .type tt, .type t.name, b, rfl, .ty _, tyD_ok a1 r1 ht, kit_ty hb, k F1 H1 M1 (.bl b) _ s1 a1 rfl q1⟩
      · exact q1.elim⟩
/-- isinstance(e, (T, U)) -/
def dIsi2 (T U : Ty) (te : DE) : DE := fun env M Q => te env M fun d M1 => match isIn T (resD M1 d), isIn U (resD M1 d) with
  | some b, some c => Q (.bl (b || c)) M1
  | _, _ => False
theorem pd_isi2 {T U : Str} (t u : Ty) {p2 p3 p4 : Pos} {kk : Nat} (hm : X.mg "isinstance" = none) (he : PDE X e te) (hT : X.mg T = none) (hU : X.mg U = none) (hv : bootBuiltins T = some (.type t.name) := by decide +kernel) (hv2 : bootBuiltins U = some (.type u.name) := by decide +kernel)
    (hg : Gl X "isinstance" := by rfl) (hgT : Gl X T := by rfl) (hgU : Gl X U := by rfl) (hn : T ≠ "__name__" := by decide) (hd : (T == ("__debug__" : Str)) = false := by decide) (hn2 : U ≠ "__name__" := by decide) (hd2 : (U == ("__debug__" : Str)) = false := by decide)
    (hs0 : starEach [.Name T p2, .Name U p3] X.env = (false, eval (.Name T p2) X.env) :: starEach [.Name U p3] X.env := by rfl) (hs1 : starEach [.Name U p3] X.env = (false, eval (.Name U p3) X.env) :: starEach [] X.env := by rfl)
    (hs : starEach [e, .Tuple [.Name T p2, .Name U p3] kk p4] X.env = (false, eval e X.env) :: starEach [.Tuple [.Name T p2, .Name U p3] kk p4] X.env := by rfl)
    (hs2 : starEach [.Tuple [.Name T p2, .Name U p3] kk p4] X.env = (false, eval (.Tuple [.Name T p2, .Name U p3] kk p4) X.env) :: starEach [] X.env := by rfl) (hpl : (backTo pos (starEach [.Tuple [.Name T p2, .Name U p3] kk p4] X.env)).any (·.1) = false := by rfl) :
    PDE X (.Call (.Name "isinstance" p) [e, .Tuple [.Name T p2, .Name U p3] kk p4] [] pos) (dIsi2 t u te) :=
  pe_imp (pe_callB call_isiT hg hm (by decide +kernel) (pa_cons he (pa_cons (pe_tup (pa_cons (pe_bltn (v := .ty t.name) hgT hT hv rfl hn hd) (pa_cons (pe_bltn (v := .ty u.name) hgU hU hv2 rfl hn2 hd2) pa_nil hs1) hs0)) pa_nil hs2) hs) (by decide) (by decide) hs hpl) fun σ H Q ⟨R, F, env, M, Qd, a, e, h, k⟩ =>
    ⟨R, F, env, M, _, a, e, h, fun F1 H1 M1 d v s1 a1 r1 q1 => ⟨by show 2 ≤ sizeLine; decide, fun P hP => by
      obtain ⟨a2, s2⟩ := a1.laid hP (.tup [.ty t.name, .ty u.name])
      split at q1
      · rename_i b c hb hc
        obtain ⟨tt, ht, hb⟩ := isIn_ok hb
        obtain ⟨tt2, ht2, hc⟩ := isIn_ok hc
        rw [ht] at ht2; cases ht2
        refine ⟨v, P, _, .type tt, [.type t.name, .type u.name], b || c, rfl, upd_same, .cons (.ty _) (.cons (.ty _) .nil), tyD_ok a2 (r1.mono s2) ht, kitAny_cons (kit_ty hb) (fun e => ?_) (fun e => by rw [e]; rfl), k _ _ M1 (.bl _) _ (s1.trans s2) a2 rfl q1⟩
        subst e
        exact kitAny_cons (kit_ty hc) (fun e => by rw [e]; exact kitAny_nil) (fun e => by rw [e]; rfl)
      · exact q1.elim⟩⟩
end
end L3
set_option Elab.async false
set_option linter.all false
set_option maxRecDepth 100000
set_option maxHeartbeats 1000000
namespace L3
open PySem PySem.Spec PyProof.Rows L2
section
variable {X : Cx} {a b o i kx vx : Expr} {e : Expr} {es : List Expr} {te ta tb to ti tk tv : DE} {t : DA} {pos p apos tpos : Pos}
def leD (d e : D) : Bool := PySem.W.dataLe false D.py d e
def sortD (ds : List D) : List D := ds.mergeSort leD
/-- what may be sorted -/
def SrtOk (ds : List D) : Prop := PySem.W.AllAlike (ds.map D.py) ∧ PySem.W.Sortable (ds.map D.py)
def rSortV (K : PySem.W.Frag) : List V → Hp → VK → Prop := fun vs H Q => ∃ a xs F ds, vs = [.ref a] ∧ SqL K H a xs ∧ Same F H ∧ Reps K F ds xs ∧ D.les 50 ds = true ∧ SrtOk ds ∧ ∀ ys p, Reps K F (sortD ds) ys → H p = none → Q (.ref p) (upd H p (.lst ys))
theorem each_rep {K : PySem.W.Frag} {F : Hp} : ∀ {ds : List D} {xs : List V} {us : List Value}, Reps K F ds xs → Vals xs us → PySem.W.EachIs (fun u d => ∃ x, RelV x u ∧ Rep K F d x) us ds
  | [], _, _, h, r => by cases h; cases r; exact .nil
  | d :: ds, _, us, ⟨x, rr, e, h1, h2⟩, r => by
    subst e
    cases r with
    | cons r1 r2 => exact .cons ⟨x, r1, h1⟩ (each_rep h2 r2)
theorem rep_each {K : PySem.W.Frag} {F : Hp} : ∀ {ds : List D} {us : List Value}, PySem.W.EachIs (fun u d => ∃ x, RelV x u ∧ Rep K F d x) us ds → ∃ xs, Vals xs us ∧ Reps K F ds xs
  | _, _, .nil => ⟨[], .nil, rfl⟩
  | _, _, .cons ⟨x, r, h⟩ t => by
    obtain ⟨xs, r2, h2⟩ := rep_each t
    exact ⟨x :: xs, .cons r r2, x, xs, rfl, h, h2⟩
theorem each_reads {pins : List (Addr × Obj)} {σ : L2.St} {H : Hp} {s : Shared} {F : Hp} (I : Inv X pins σ H s) (sm : Same F H) : ∀ {ds : List D} {xs : List V} {us : List Value}, Reps X.K F ds xs → Vals xs us → D.les 50 ds = true → PySem.W.EachIs (fun u d => ∃ as, Reads s.heap u d.py as) us ds
  | [], _, _, h, r, _ => by cases h; cases r; exact .nil
  | d :: ds, _, us, ⟨x, rr, e, h1, h2⟩, r, l => by
    subst e
    simp only [D.les, Bool.and_eq_true] at l
    cases r with
    | cons r1 r2 => exact .cons (Dp.reads I d.py x _ (dp_mono sm (py_dp h1 l.1).1) r1) (each_reads I sm h2 r2 l.2)
theorem les_each : ∀ {n : Nat} {ds : List D}, D.les n ds = true → ∀ d ∈ ds, D.le n d = true
  | n, d :: ds, h, g, hg => by
    simp only [D.les, Bool.and_eq_true] at h
    rcases List.mem_cons.mp hg with rfl | hg
    · exact h.1
    · exact les_each h.2 g hg
mutual
theorem py_depth : ∀ {n : Nat} {d : D}, D.le n d = true → d.py.depth ≤ n + 1
  | n, .non, _ => by simp [D.py, PyData.depth]
  | n, .bl b, _ => by simp [D.py, PyData.depth]
  | n, .int i, _ => by simp [D.py, PyData.depth]
  | n, .str x, _ => by simp [D.py, PyData.depth]
  | n + 1, .tup ds, h => by
    have := pys_depth (show D.les n ds = true by simpa [D.le] using h)
    simp only [D.py, PyData.depth]; omega
  | n + 1, .lst ds, h => by
    have := pys_depth (show D.les n ds = true by simpa [D.le] using h)
    simp only [D.py, PyData.depth]; omega
  | 0, .tup ds, h => by simp [D.le] at h
  | 0, .lst ds, h => by simp [D.le] at h
  | _, .ref _, h => by simp [D.le] at h
  | _, .ty _, h => by simp [D.le] at h
  | _, .lsk _, h => by simp [D.le] at h
  | _, .dct _ _, h => by simp [D.le] at h
  | _, .obj _ _, h => by simp [D.le] at h
  | _, .dkd _ _ _, h => by simp [D.le] at h
  | _, .exc _ _ _ _, h => by simp [D.le] at h
  | _, .fn _ _ _, h => by simp [D.le] at h
theorem pys_depth : ∀ {n : Nat} {ds : List D}, D.les n ds = true → PyData.depthAll (D.pys ds) ≤ n + 1
  | n, [], _ => by simp [D.pys, PyData.depthAll]
  | n, d :: ds, h => by
    have h' : D.le n d = true ∧ D.les n ds = true := by simpa [D.les] using h
    have h1 := py_depth h'.1
    have h2 := pys_depth h'.2
    simp only [D.pys, PyData.depthAll]; omega
end
theorem cr_sortedV (hu : X.A.units + 65 < cLine) : CallR X (.builtin "sorted") (rSortV X.K) := by
  intro pins s σ H vs us Q I r ⟨a, xs, F, ds, ev, hs, sm, rx, hl, ok, q⟩
  subst ev
  obtain ⟨its, rv, pl, hz⟩ := I.list hs
  rw [Vals.ref1 r]
  have hlen : its.length = ds.length := by rw [← rv.length, rx.length]
  refine PySem.W.sorted_data (vs := its) (bs := ds) (enc := D.py) (R := fun u d => ∃ x, RelV x u ∧ Rep X.K F d x) pl.isList (each_rep rx rv) (each_reads I sm rx rv hl) ok.1 ok.2 (by rw [rx.length]; exact hz) (fun b hb => ?_) fun out ho hout => ?_
  · have := py_depth (les_each hl b hb); omega
  · obtain ⟨ys, ry, rys⟩ := rep_each hout
    obtain ⟨ep, he'⟩ := PyProof.Rows.sortedAll_at s.heap its out.toArray
    have hy : ys.length ≤ sizeLine := by rw [ry.length, ho, rx.length]; exact hz
    exact ⟨.ref _, upd H (s.heap.objs.size + 1) (.lst ys), I.laid (t' := s.toks) (fun _ _ => PyProof.Rows.sortedAll_old) (Nat.le_succ _) ⟨hy, out, ep, ry, he'⟩, rfl, q ys _ rys (I.hok.fresh (Nat.le_succ _))⟩
def keyInts : List L2.Key → Option (List Int)
  | [] => some []
  | .inl i :: r => (keyInts r).map (i :: ·)
  | _ => none
theorem keyInts_ok : ∀ {ks : List L2.Key} {ns : List Int}, keyInts ks = some ns → ks = ns.map Sum.inl
  | [], _, h => by cases h; rfl
  | .inl i :: r, _, h => by
    simp only [keyInts, Option.map_eq_some_iff] at h
    obtain ⟨cs, h1, rfl⟩ := h
    rw [keyInts_ok h1]; rfl
  | .inr _ :: _, _, h => by cases h
/-- sorted(xs): a frozen list; of a dict its keys, numbers -/
def rSortG (mk : List D → Mp → DK → Prop) : R1D := fun d M Q => match resD M d with
  | .lst ds => (D.les 50 ds = true ∧ SrtOk ds) ∧ mk (sortD ds) M Q
  | _ => match resK M d with
    | some (ks, _) => match keyInts ks with
      | some ns => ns.length < 64 ∧ ∀ ys : List Int, ys.Perm ns → ys.Pairwise (· ≤ ·) → mk (ys.map D.int) M Q
      | none => False
    | none => False
def mkF : List D → Mp → DK → Prop := fun ds M Q => Q (.lst ds) M
abbrev rSortD : R1D := rSortG mkF
theorem zip_fst {α β : Type} : ∀ {xs : List α} {ys : List β}, xs.length = ys.length → (xs.zip ys).map (·.1) = xs
  | [], _, _ => by simp
  | _ :: _, [], h => by simp at h
  | x :: xs, y :: ys, h => by simp [zip_fst (xs := xs) (ys := ys) (by simpa using h)]
theorem calld_sortG {mk : List D → Mp → DK → Prop} (hmk : ∀ {K : PySem.W.Frag} {R F : Hp} {M : Mp} {H : Hp} {ds : List D} {vs : List V} {Qd : DK} {Q : VK} {p : Addr}, At K R F M H → Reps K F ds vs → KD K R F Qd Q → mk ds M Qd → H p = none → Q (.ref p) (upd H p (.lst vs)))
    {k : Nat} (hr : Room k X.A) (hc : X.calm = true) : CallD X (.builtin "sorted") (rSortG mk) := ⟨_, (cr_sortedV (by have := hr.un; omega)).or (call_sortedDI hc), fun R F M H d x Qd Q a r q kd => by
  unfold rSortG at q
  split at q
  · rename_i ds hd
    obtain ⟨P, xs, rfl, hq, rx⟩ := (seq_at a r).1 hd
    exact .inl ⟨P, xs, F, ds, rfl, SqL.of hq, a.fz, rx, q.1.1, q.1.2, fun ys p ry hp => hmk a ry kd q.2 hp⟩
  · split at q
    · rename_i ks ds hk
      split at q
      · rename_i ns hn
        obtain ⟨P, xs, rfl, hq, l, rx⟩ := resK_at a r hk
        refine .inr ⟨P, _, ns, rfl, hq, ?_, q.1, fun ys p h1 h2 hp => hmk a (Reps.ofInts ys) kd (q.2 ys h1 h2) hp⟩
        rw [zip_fst (l.1.trans rx.length), keyInts_ok hn]
      · exact q.elim
    · exact q.elim⟩
theorem calld_sort {k : Nat} (hr : Room k X.A) (hc : X.calm = true := by rfl) : CallD X (.builtin "sorted") rSortD := calld_sortG (fun a r k h hp => lst_new a r k h hp) hr hc
/-- {k: v, ..} -/
def dPairs : List (DE × DE) → DEnv → Mp → (List (D × D) → Mp → Prop) → Prop
  | [], _, M, Q => Q [] M
  | (tk, tv) :: r, env, M, Q => tk env M fun x M1 => tv env M1 fun y M2 => dPairs r env M2 fun ps M3 => Q ((x, y) :: ps) M3
def tabOf : List (D × D) → List L2.Key → List D → Option (List L2.Key × List D)
  | [], ks, ds => some (ks, ds)
  | (x, y) :: r, ks, ds => match keyD x with
    | some k => tabOf r (addK ks k) (setK ks ds k y)
    | none => none
def dDct (ps : List (DE × DE)) : DE := fun env M Q => dPairs ps env M fun qs M1 => match tabOf qs [] [] with
  | some (ks, ds) => ∀ p, M1 p = none → Q (.ref p) (mupd M1 p (.dct ks ds))
  | none => False
def upPs (K : PySem.W.Frag) (ps : List (DE × DE)) : List (TE × TE) := ps.map fun p => (up K p.1, up K p.2)
def RepPs (K : PySem.W.Frag) (F : Hp) : List (D × D) → List (V × V) → Prop
  | [], xs => xs = []
  | (d, g) :: ds, xs => ∃ x y r, xs = (x, y) :: r ∧ Rep K F d x ∧ Rep K F g y ∧ RepPs K F ds r
theorem pairs_up {K : PySem.W.Frag} : ∀ (ps : List (DE × DE)) {σ : L2.St} {H : Hp} {R F : Hp} {env : DEnv} {M : Mp} {Qd : List (D × D) → Mp → Prop} {Q : List (V × V) → Hp → Prop}, At K R F M H → EnvR K F σ env → dPairs ps env M Qd →
    (∀ F' H' M' ds vs, Same F F' → At K R F' M' H' → RepPs K F' ds vs → ds.length = ps.length → Qd ds M' → Q vs H') → tPairs (upPs K ps) σ H Q
  | [], _, H, R, F, _, M, _, _, a, _, h, k => k F H M [] [] (Same.refl F) a rfl rfl h
  | (tk, tv) :: r, σ, H, R, F, env, M, Qd, Q, a, e, h, k => ⟨R, F, env, M, _, a, e, h, fun F1 H1 M1 x v s1 a1 r1 q1 => ⟨R, F1, env, M1, _, a1, e.mono s1, q1, fun F2 H2 M2 y w s2 a2 r2 q2 =>
      pairs_up r a2 ((e.mono s1).mono s2) q2 fun F3 H3 M3 ds vs s3 a3 r3 l3 q3 => k F3 H3 M3 ((x, y) :: ds) ((v, w) :: vs) ((s1.trans s2).trans s3) a3 ⟨v, w, vs, rfl, (r1.mono s2).mono s3, r2.mono s3, r3⟩ (by simp [l3]) q3⟩⟩
theorem tab_ok {K : PySem.W.Frag} {F : Hp} : ∀ {qs : List (D × D)} {vs : List (V × V)} {ks ks' : List L2.Key} {ds ds' : List D} {xs : List V}, RepPs K F qs vs → KsOk ks ds → Reps K F ds xs → tabOf qs ks ds = some (ks', ds') →
    ∃ (kvs : List (L2.Key × V)) (ys : List V), vs = kvs.map (fun kv => (kV kv.1, kv.2)) ∧ kvs.length = qs.length ∧ mergeK (ks.zip xs) kvs = ks'.zip ys ∧ KsOk ks' ds' ∧ Reps K F ds' ys
  | [], _, ks, ks', ds, ds', xs, r, l, rx, h => by
    cases r; cases h
    exact ⟨[], xs, rfl, rfl, rfl, l, rx⟩
  | (x, y) :: qs, _, ks, ks', ds, ds', xs, ⟨v, w, rr, e, r1, r2, r3⟩, l, rx, h => by
    subst e
    simp only [tabOf] at h
    split at h
    · rename_i k hk
      obtain ⟨ys, e1, e2⟩ := setK_zip (j := k) l.1 rx r2
      obtain ⟨kvs, zs, i1, i2, i3, i4, i5⟩ := tab_ok r3 (l.set (keyD_sok r1 hk)) e2 h
      refine ⟨(k, w) :: kvs, zs, ?_, by simp [i2], ?_, i4, i5⟩
      · rw [keyD_ok r1 hk, i1]; rfl
      · rw [← i3, ← e1]; rfl
    · cases h
theorem pps_up {pos : Pos} {k v : Expr} {ks : List (Option Expr)} {vs : List Expr} {tk tv : DE} {ps : List (DE × DE)} (hk : PDE X k tk) (hv : PDE X v tv) (hr : PPs X pos ks vs (upPs X.K ps)) : PPs X pos (some k :: ks) (v :: vs) (upPs X.K ((tk, tv) :: ps)) := pps_cons hk hv hr
theorem pps_up0 {pos : Pos} : PPs X pos [] [] (upPs X.K []) := pps_nil
theorem pd_dct {keys : List (Option Expr)} {values : List Expr} {ps : List (DE × DE)} (h : PPs X pos keys values (upPs X.K ps)) (hn : ps.length ≤ 15 := by decide) (hall : keys.all (·.isSome) = true := by rfl) (hl : keys.length = values.length := by rfl) (h0 : keys ≠ [] := by simp)
    (h15 : keys.length ≤ 15 := by decide) : PDE X (.Dict keys values pos) (dDct ps) :=
  pe_imp (pe_disp h hall hl h0 h15) fun σ H Q ⟨R, F, env, M, Qd, a, e, h, k⟩ p hp => by
    have hR := a.freeR hp
    refine pairs_up ps (a.lend hp _) e h fun F1 H1 M1 qs vs s1 a1 r1 l1 q1 => ⟨(a1.fr p _ upd_same).2.2, ?_⟩
    split at q1
    · rename_i ks ds ht
      obtain ⟨kvs, ys, i1, i2, i3, i4, i5⟩ := tab_ok (ks := []) (ds := []) (xs := []) r1 ⟨rfl, fun _ h => nomatch h⟩ rfl ht
      refine ⟨kvs, i1, by omega, ?_⟩
      have a2 := a1.relend (.dK (mergeK [] kvs))
      have e3 : mergeK [] kvs = ks.zip ys := i3
      rw [e3] at a2 ⊢
      exact k F1 _ _ (.ref p) _ s1 (a2.takeM hR (o := .dct ks ds) ⟨ys, rfl, i4, i5⟩) rfl (q1 p (a1.fr p _ upd_same).2.1)
    · exact q1.elim
def dFrzN (i : Nat) (t : DS) : DS := fun D env M => match env[i]? with
  | some (some (.ref q)) => match M q with
    | some (.lst ds) => t D (env.set i (some (.lst ds))) (mdel M q)
    | some (.dct ks ds) => t D (env.set i (some (.dct ks ds))) (mdel M q)
    | some (.ins c ds) => t D (env.set i (some (.obj c ds))) (mdel M q)
    | some (.dkd w ks ds) => t D (env.set i (some (.dkd w ks ds))) (mdel M q)
    | _ => False
  | _ => False
theorem EnvR.reset {K : PySem.W.Frag} {F : Hp} {σ : L2.St} {env : DEnv} {i : Nat} {d : D} {v : V} (e : EnvR K F σ env) (hv : σ[i]? = some (some v)) (r : Rep K F d v) : EnvR K F σ (env.set i (some d)) := by
  refine ⟨by rw [List.length_set]; exact e.len, fun j g h => ?_⟩
  by_cases hj : i = j
  · subst hj
    rw [List.getElem?_set] at h
    rw [if_pos rfl] at h
    split at h
    · cases h; exact ⟨v, hv, r⟩
    · cases h
  · rw [List.getElem?_set_ne hj] at h
    exact e.get j g h
theorem ps_lock {st : Stmt} {t : TS} (h : PS X st t) : PS X st (fun D σ H => t D σ H ∨ ∃ d u, H d = some u ∧ Mut (some u) ∧ ∀ o, t D σ (upd H d (.frz o u))) := ⟨fun pins s σ H D I q => by
  rcases q with q | ⟨d, kvs, hd, mu, q⟩
  · exact h.run pins s σ H D I q
  · obtain ⟨od, I2⟩ := I.lock hd mu
    exact h.run pins s σ _ D I2 (q od)⟩
theorem pds_frz {st : Stmt} {t : DS} (i : Nat) (h : PDS X st t) : PDS X st (dFrzN i t) := ps_imp (ps_lock h) fun D σ H ⟨R, F, env, M, Dd, a, e, h, k⟩ => by
  unfold dFrzN at h
  split at h
  · rename_i q hq
    obtain ⟨v, hv, rv⟩ := e.get i _ hq
    cases (show v = V.ref q from rv)
    split at h
    · rename_i ds hm
      obtain ⟨u, ru, a2, s2⟩ := a.freeze hm
      obtain ⟨xs, rfl, rx⟩ := ru
      exact .inl ⟨R, _, _, _, Dd, a2, (e.mono s2).reset hv (d := .lst ds) ⟨q, xs, rfl, upd_same, rx.mono s2⟩, h, k.mono s2⟩
    · rename_i ks ds hm
      obtain ⟨_, u, hu, xs, rfl, l, rx⟩ := a.mu _ _ hm
      refine .inr ⟨q, _, hu, trivial, fun o => ?_⟩
      obtain ⟨a2, s2⟩ := a.freezeAs hm (.frz o (.dK (ks.zip xs)))
      exact ⟨R, _, _, _, Dd, a2, (e.mono s2).reset hv (d := .dct ks ds) ⟨q, o, xs, rfl, upd_same, l, rx.mono s2⟩, h, k.mono s2⟩
    · rename_i c ds hm
      obtain ⟨u, ru, a2, s2⟩ := a.freeze hm
      obtain ⟨dx, xs, rfl, l, rx⟩ := ru
      exact .inl ⟨R, _, _, _, Dd, a2, (e.mono s2).reset hv (d := .obj c ds) ⟨q, dx, xs, rfl, upd_same, l, rx.mono s2⟩, h, k.mono s2⟩
    · rename_i w ks ds hm
      obtain ⟨_, u, hu, Ls, rfl, l, r1, r2⟩ := a.mu _ _ hm
      refine .inr ⟨q, _, hu, trivial, fun o => ?_⟩
      obtain ⟨a2, s2⟩ := a.freezeAs hm (.frz o (DkO w q Ls))
      exact ⟨R, _, _, _, Dd, a2, (e.mono s2).reset hv (d := .dkd w ks ds) ⟨q, o, Ls, rfl, upd_same, l, r1.mono s2, r2.mono s2⟩, h, k.mono s2⟩
    · exact h.elim
  · exact h.elim
end
end L3
set_option Elab.async false
set_option linter.all false
set_option maxRecDepth 100000
set_option maxHeartbeats 1000000
namespace NS
open PySem PySem.Spec PyProof.Rows L2
def geo : Nat → Nat
  | 0 => 0
  | n + 1 => geo n * 5 + 1
theorem geo_pow : ∀ n, 5 ^ n = 4 * geo n + 1
  | 0 => rfl
  | n + 1 => by rw [Nat.pow_succ, geo_pow n]; show _ = 4 * (geo n * 5 + 1) + 1; omega
theorem geo_add (a : Nat) : ∀ b, geo (a + b) = geo a * 5 ^ b + geo b
  | 0 => by simp [geo]
  | b + 1 => by
    show geo (a + b) * 5 + 1 = geo a * 5 ^ (b + 1) + (geo b * 5 + 1)
    rw [geo_add a b, Nat.pow_succ, ← Nat.mul_assoc, Nat.add_mul]; omega
theorem geo_two : ∀ k, ∃ o, geo (2 ^ k) = 2 ^ k * (2 * o + 1)
  | 0 => ⟨0, rfl⟩
  | k + 1 => by
    obtain ⟨o, e⟩ := geo_two k
    refine ⟨2 * o * geo (2 ^ k) + o + geo (2 ^ k), ?_⟩
    have e1 : geo (2 ^ (k + 1)) = geo (2 ^ k) * (2 * (2 * geo (2 ^ k) + 1)) := by
      rw [Nat.pow_succ, Nat.mul_two, geo_add, geo_pow]
      generalize geo (2 ^ k) = g
      rw [Nat.mul_add, Nat.mul_add, Nat.mul_add]; simp [Nat.mul_assoc, Nat.mul_comm, Nat.mul_left_comm]; omega
    have e2 : 2 * (2 * o * geo (2 ^ k) + o + geo (2 ^ k)) + 1 = (2 * o + 1) * (2 * geo (2 ^ k) + 1) := by
      generalize geo (2 ^ k) = g
      rw [Nat.add_mul, Nat.mul_add]; simp [Nat.mul_assoc, Nat.mul_comm, Nat.mul_left_comm, Nat.mul_add]; omega
    rw [e1, e2, Nat.pow_succ]
    generalize geo (2 ^ k) = g at e
    generalize 2 ^ k = P at e
    calc g * (2 * (2 * g + 1)) = (P * (2 * o + 1)) * (2 * (2 * g + 1)) := by rw [← e]
      _ = P * 2 * ((2 * o + 1) * (2 * g + 1)) := by
        generalize 2 * o + 1 = x
        generalize 2 * g + 1 = y
        simp [Nat.mul_assoc, Nat.mul_comm, Nat.mul_left_comm]
theorem two_step {P a j : Nat} (hP : 0 < P) (hj : j < P * 2) (e : a % P = j % P) : a % (P * 2) = j ∨ (a + P) % (P * 2) = j := by
  have dj : j = j % P + P * (j / P % 2) := by
    conv => lhs; rw [← Nat.mod_eq_of_lt hj]
    exact Nat.mod_mul
  have q1 : (a + P) / P = a / P + 1 := Nat.add_div_right a hP
  have q2 : (a + P) % P = a % P := Nat.add_mod_right a P
  rcases Nat.decEq (a / P % 2) (j / P % 2) with c | c
  · right
    rw [Nat.mod_mul, q1, q2, e]
    have : (a / P + 1) % 2 = j / P % 2 := by omega
    rw [this]; exact dj.symm
  · left
    rw [Nat.mod_mul, e, c]; exact dj.symm
theorem geo_meets : ∀ k j, j < 2 ^ k → ∃ n, n < 2 ^ k ∧ geo n % 2 ^ k = j
  | 0, j, h => ⟨0, by decide, by simp at h; simp [geo, h]⟩
  | k + 1, j, h => by
    have hP : 0 < 2 ^ k := Nat.two_pow_pos k
    rw [Nat.pow_succ] at h
    obtain ⟨n, hn, e⟩ := geo_meets k (j % 2 ^ k) (Nat.mod_lt _ hP)
    rw [Nat.pow_succ]
    rcases two_step hP h e with z | z
    · exact ⟨n, by omega, z⟩
    · refine ⟨2 ^ k + n, by omega, ?_⟩
      obtain ⟨o, eo⟩ := geo_two k
      have e1 : geo (2 ^ k + n) = geo n + 2 ^ k + 2 ^ k * 2 * (4 * o * geo n + o + 2 * geo n) := by
        rw [geo_add, eo, geo_pow]
        generalize geo n = g
        generalize 2 ^ k = P
        have : (2 * o + 1) * (4 * g + 1) = 1 + 2 * (4 * o * g + o + 2 * g) := by
          rw [Nat.add_mul, Nat.mul_add]; simp [Nat.mul_assoc, Nat.mul_comm, Nat.mul_left_comm, Nat.mul_add]; omega
        rw [Nat.mul_assoc, this, Nat.mul_add, Nat.mul_one, ← Nat.mul_assoc]; omega
      rw [e1, Nat.add_mul_mod_self_left]; exact z
def MaskG (m : Nat) : Prop := m = 7 ∨ m = 31 ∨ m = 127 ∨ m = 511 ∨ m = 2047 ∨ m = 8191
theorem MaskG.two {m : Nat} (h : MaskG m) : ∃ k, m + 1 = 2 ^ k := by
  rcases h with rfl | rfl | rfl | rfl | rfl | rfl
  · exact ⟨3, rfl⟩
  · exact ⟨5, rfl⟩
  · exact ⟨7, rfl⟩
  · exact ⟨9, rfl⟩
  · exact ⟨11, rfl⟩
  · exact ⟨13, rfl⟩
theorem MaskG.odd {m : Nat} (h : MaskG m) : m % 2 = 1 := by rcases h with rfl | rfl | rfl | rfl | rfl | rfl <;> rfl
theorem MaskG.le {m : Nat} (h : MaskG m) : m ≤ 8191 := by rcases h with rfl | rfl | rfl | rfl | rfl | rfl <;> decide
theorem MaskG.pos {m : Nat} (h : MaskG m) : 7 ≤ m := by rcases h with rfl | rfl | rfl | rfl | rfl | rfl <;> decide
theorem orb_geo (m : Nat) : ∀ n, lcgN m n = geo n % (m + 1)
  | 0 => (Nat.zero_mod _).symm
  | n + 1 => by
    show (lcgN m n * 5 + 1) % (m + 1) = (geo n * 5 + 1) % (m + 1)
    rw [orb_geo m n, Nat.add_mod, Nat.mod_mul_mod, ← Nat.add_mod]
/-- from each slot the leaps come to each -/
theorem leaps_meet {m : Nat} (hm : MaskG m) {i j : Nat} (hi : i ≤ m) (hj : j ≤ m) : ∃ k, k ≤ m ∧ lcgI m i k = j := by
  obtain ⟨p, hp⟩ := hm.two
  obtain ⟨a, ha, ea⟩ := geo_meets p i (by omega)
  obtain ⟨b, hb, eb⟩ := geo_meets p j (by omega)
  rw [← hp] at ha hb ea eb
  have from_ : ∀ k, lcgI m i k = geo (a + k) % (m + 1) := fun k => by rw [← orb_geo, ← lcgN_add, orb_geo, ea]
  by_cases c : a ≤ b
  · exact ⟨b - a, by omega, by rw [from_, Nat.add_sub_cancel' c]; exact eb⟩
  · refine ⟨b + (m + 1) - a, by omega, ?_⟩
    obtain ⟨o, eo⟩ := geo_two p
    rw [from_, show a + (b + (m + 1) - a) = (m + 1) + b by omega, geo_add, hp, eo, Nat.mul_assoc, Nat.mul_add_mod, ← hp]
    exact eb
/-- the run that begins at a slot comes early enough -/
theorem runs_meet {m : Nat} (hm : MaskG m) (h : Int) {j : Nat} (hj : j ≤ m) : ∃ n, n ≤ m + 12 ∧ runI m (SetTable.bits h) n = j := by
  obtain ⟨k, h1, h2⟩ := leaps_meet hm (runI_le m (SetTable.bits h) 12) hj
  exact ⟨12 + k, by omega, (runI_tail (bits_lt h) k).trans h2⟩
theorem way_in {m : Nat} (h : Int) (n : Nat) : way m h n ≤ m := by
  have s : SetTable.bits h % (m + 1) ≤ m := Nat.le_of_lt_succ (Nat.mod_lt _ (Nat.succ_pos m))
  have := nth_in (m := m) n (runAt m (SetTable.bits h % (m + 1)) (SetTable.bits h)) (by
    have := runEnd_bd s
    show SetTable.bits h % (m + 1) + (SetTable.runEnd m (SetTable.bits h % (m + 1)) - SetTable.bits h % (m + 1)) ≤ m
    omega)
  show (nth m _ n).j ≤ m
  omega
theorem way_meets {m : Nat} (hm : MaskG m) (h : Int) {j : Nat} (hj : j ≤ m) : ∃ k, k < 10 * SetTable.turns m ∧ way m h k = j := by
  obtain ⟨n, h1, h2⟩ := runs_meet hm h hj
  obtain ⟨k, h3, h4⟩ := run_nth m (SetTable.bits h) n
  refine ⟨k, ?_, by show (nth m _ k).j = j; rw [h4]; exact h2⟩
  show k < 10 * (m + 15)
  omega
structure TabG (t : SetTable) (hs : List Int) : Prop where
  ris : Ris t.place.toList
  dm : t.dummies = #[]
  sz : t.place.size = hs.length
  mok : MaskG t.mask
  bd : ∀ x ∈ t.place.toList, x ≤ t.mask
  found : ∀ q ∈ hs.zip t.place.toList, ∃ n, way t.mask q.1 n = q.2 ∧ ∀ n', n' < n → way t.mask q.1 n' ∈ t.place.toList
section
variable {t : SetTable} {hs : List Int}
theorem TabG.len (T : TabG t hs) : t.place.toList.length = hs.length := T.sz
theorem TabG.first (T : TabG t hs) (hl : hs.length ≤ t.mask) (h : Int) : ∃ N, N < 10 * SetTable.turns t.mask ∧ way t.mask h N ∉ t.place.toList ∧ ∀ n, n < N → way t.mask h n ∈ t.place.toList := by
  obtain ⟨j, hj, out⟩ := st_missing t.place.toList (t.mask + 1) (by rw [T.len]; omega)
  obtain ⟨k, hk, e⟩ := way_meets T.mok h (Nat.le_of_lt_succ hj)
  subst e
  obtain ⟨N, h1, h2, h3⟩ := st_least (p := fun n => way t.mask h n ∉ t.place.toList) k out
  exact ⟨N, Nat.lt_of_le_of_lt h1 hk, h2, fun n hn => Decidable.of_not_not (h3 n hn)⟩
theorem TabG.before (T : TabG t hs) {h : Int} {N i j : Nat} (free : way t.mask h N ∉ t.place.toList) (hi : hs[i]? = some h) (hj : t.place.toList[i]? = some j) : ∃ n, n < N ∧ way t.mask h n = j := by
  have mem : (h, j) ∈ hs.zip t.place.toList := List.mem_iff_getElem?.mpr ⟨i, List.getElem?_zip_eq_some.mpr ⟨hi, hj⟩⟩
  obtain ⟨n, e, b⟩ := T.found _ mem
  refine ⟨n, Decidable.byContradiction fun c => ?_, e⟩
  by_cases c2 : n = N
  · subst c2; rw [e] at free; exact free (List.mem_of_getElem? hj)
  · exact free (b N (by omega))
theorem TabG.put (T : TabG t hs) {h : Int} {N : Nat} (free : way t.mask h N ∉ t.place.toList) (full : ∀ n, n < N → way t.mask h n ∈ t.place.toList) :
    (t.put (way t.mask h N)).2 = SetTable.below t.place (way t.mask h N) ∧ SetTable.below t.place (way t.mask h N) ≤ hs.length ∧
    TabG (t.put (way t.mask h N)).1 (hs.take (SetTable.below t.place (way t.mask h N)) ++ h :: hs.drop (SetTable.below t.place (way t.mask h N))) ∧
    (t.put (way t.mask h N)).1.mask = t.mask ∧ (t.put (way t.mask h N)).1.led = t.led := by
  generalize hj : way t.mask h N = j at free
  have jm : j ≤ t.mask := hj ▸ way_in h N
  have cut := (below_cut T.ris j).1
  generalize hp : SetTable.below t.place j = p at cut
  have pl : p ≤ hs.length := by rw [← T.sz]; exact cut
  have ep : (t.put j).1.place.toList = t.place.toList.take p ++ j :: t.place.toList.drop p := by rw [put_place, hp]
  have more : ∀ x, x ∈ t.place.toList → x ∈ (t.put j).1.place.toList := fun x hx => by rw [ep]; exact mem_ins.mpr (.inr hx)
  refine ⟨hp, pl, ⟨?_, put_dm T.dm j, ?_, T.mok, fun x hx => ?_, fun q hq => ?_⟩, rfl, rfl⟩
  · exact ris_insert T.ris fun e => free (List.mem_of_getElem? (i := SetTable.below t.place j) (by rw [Array.getElem?_toList]; exact e))
  · rw [← Array.length_toList, ep, len_ins _ (by rw [T.len]; exact pl), len_ins _ pl, T.len]
  · rw [ep] at hx
    rcases mem_ins.mp hx with rfl | hx
    · exact jm
    · exact T.bd x hx
  · rw [ep, List.zip_append (by rw [List.length_take, List.length_take, T.len]), List.zip_cons_cons] at hq
    have : q = (h, j) ∨ q ∈ hs.zip t.place.toList := by
      rcases List.mem_append.mp hq with z | z
      · right
        exact List.mem_of_mem_take (i := p) (by rw [List.zip, List.take_zipWith]; exact z)
      · rcases List.mem_cons.mp z with z | z
        · exact .inl z
        · exact .inr (List.mem_of_mem_drop (i := p) (by rw [List.zip, List.drop_zipWith]; exact z))
    rcases this with rfl | z
    · exact ⟨N, hj, fun n hn => more _ (full n hn)⟩
    · obtain ⟨n, e, b⟩ := T.found q z
      exact ⟨n, e, fun n' hn' => more _ (b n' hn')⟩
end
/-- a free slot is found: the first on the way -/
theorem free_on {m : Nat} (hm : MaskG m) (owner : Array (Option Nat)) (h : Int) {j : Nat} (hj : j ≤ m) (he : oAt owner j = none) :
    ∃ N, SetTable.layClean.free m owner (SetTable.turns m) (SetTable.bits h % (m + 1)) (SetTable.bits h) = some (way m h N) ∧ oAt owner (way m h N) = none ∧ ∀ n, n < N → oAt owner (way m h n) ≠ none := by
  obtain ⟨r, hr, e⟩ := runs_meet hm h hj
  have at_ : way m h (off m (SetTable.bits h % (m + 1)) (SetTable.bits h) r) = j := by
    show (nth m _ _).j = j
    rw [nth_off, itL_run]; exact e
  obtain ⟨N, n1, n2, n3⟩ := st_least (p := fun n => oAt owner (way m h n) = none) _ (by show oAt owner (way m h _) = none; rw [at_]; exact he)
  have occ : ∀ n, n < N → (oAt owner (way m h n)).isNone = false := fun n hn => by
    have := n3 n hn
    cases z : oAt owner (way m h n) with
    | none => exact absurd z this
    | some _ => rfl
  exact ⟨N, free_spec m owner _ r _ _ N (by show r < m + 15; omega) n1 occ (by rw [n2]; rfl), n2, n3⟩
theorem own_more {m : Nat} (hm : MaskG m) {done : List Int} {owner : Array (Option Nat)} (W : Own m done owner) (few : done.length ≤ m) (h : Int) :
    ∃ j, SetTable.layClean.free m owner (SetTable.turns m) (SetTable.bits h % (m + 1)) (SetTable.bits h) = some j ∧ Own m (done ++ [h]) (owner.setIfInBounds j (some done.length)) := by
  obtain ⟨ps, lps, inps⟩ := W.ps
  obtain ⟨j0, l0, n0⟩ := st_missing ps (m + 1) (by rw [lps]; omega)
  have e0 : oAt owner j0 = none := Decidable.byContradiction fun c => n0 (inps j0 (Nat.le_of_lt_succ l0) c)
  obtain ⟨N, told, here, full⟩ := free_on hm owner h (Nat.le_of_lt_succ l0) e0
  have inb := way_in (m := m) h N
  generalize hw : way m h N = j at told here inb
  have new : oAt (owner.setIfInBounds j (some done.length)) j = some done.length := oAt_set_self _ (by rw [W.sz]; omega)
  have old : ∀ i, i ≠ j → oAt (owner.setIfInBounds j (some done.length)) i = oAt owner i := fun i hi => oAt_set_ne _ hi
  have still : ∀ i, oAt owner i ≠ none → oAt (owner.setIfInBounds j (some done.length)) i ≠ none := fun i hi => by rw [old i fun e => hi (e ▸ here)]; exact hi
  refine ⟨j, told, ⟨by rw [Array.size_setIfInBounds]; exact W.sz, fun i k hi e => ?_, fun k hk => ?_, j :: ps, by simp [lps], fun i hi e => ?_⟩⟩
  · by_cases c : i = j
    · subst c
      rw [new] at e; cases e
      exact ⟨h, N, by simp, hw, fun n hn => still _ (full n hn)⟩
    · rw [old i c] at e
      obtain ⟨h', n, a1, a2, a3⟩ := W.at_ i k hi e
      have lt := (List.getElem?_eq_some_iff.mp a1).1
      exact ⟨h', n, by rw [List.getElem?_append_left lt]; exact a1, a2, fun n' hn' => still _ (a3 n' hn')⟩
  · rcases Nat.lt_or_ge k done.length with c | c
    · obtain ⟨i, hi, e⟩ := W.all k c
      exact ⟨i, hi, by rw [old i fun z => by rw [z, here] at e; cases e]; exact e⟩
    · have : k = done.length := by simp at hk; omega
      subst this; exact ⟨j, inb, new⟩
  · by_cases c : i = j
    · subst c; exact List.mem_cons_self
    · rw [old i c] at e; exact List.mem_cons_of_mem _ (inps i hi e)
theorem lay_rest {m : Nat} (hm : MaskG m) : ∀ (rest done : List Int) (owner : Array (Option Nat)), Own m done owner → done.length + rest.length ≤ m →
    ∃ own2, (rest.foldl (stepF m) (some (owner, done.length))).map (·.1) = some own2 ∧ Own m (done ++ rest) own2 := by
  intro rest
  induction rest with
  | nil => intro done owner W _; exact ⟨owner, rfl, by rw [List.append_nil]; exact W⟩
  | cons h rest ih =>
    intro done owner W few
    simp only [List.length_cons] at few
    obtain ⟨j, told, W2⟩ := own_more hm W (by omega) h
    have l1 : (done ++ [h]).length = done.length + 1 := by simp
    obtain ⟨own2, e, W3⟩ := ih (done ++ [h]) _ W2 (by omega)
    refine ⟨own2, ?_, by rw [← List.append_cons] at W3; exact W3⟩
    rw [List.foldl_cons, stepF_some told, ← l1]; exact e
theorem lay_all {m : Nat} (hm : MaskG m) {hs : Array Int} (few : hs.size ≤ m) : ∃ owner, SetTable.layClean m hs = some owner ∧ Own m hs.toList owner := by
  rw [layClean_eq]
  exact lay_rest hm hs.toList [] _ (Own.init m) (by simpa using few)
theorem laid_anew (t : SetTable) {hs : Array Int} {want M : Nat} (hw : SetTable.sizeAbove want - 1 = M) (hM : MaskG M) (few : hs.size ≤ M) :
    ∃ t' ord, t.relaid hs want = some (t', ord) ∧ ord.toList.Perm (List.range hs.size) ∧ TabG t' (ord.toList.map fun i => hs.getD i 0) ∧ t'.mask = M ∧ t'.led = t.led := by
  obtain ⟨owner, e, W⟩ := lay_all hM few
  have told := relaid_eq t hs want
  rw [hw, e] at told
  have risen := ris_live (fun j => owner.getD j none) (List.range (M + 1)) List.pairwise_lt_range
  have mem : ∀ q, q ∈ liveOf M owner → q.1 ≤ M ∧ oAt owner q.1 = some q.2 := fun q hq => (mem_live W.sz).mp hq
  have each : ∀ k, k < hs.size → k ∈ (liveOf M owner).map (·.2) := fun k hk => by
    obtain ⟨j, hj, z⟩ := W.all k hk
    exact List.mem_map.mpr ⟨(j, k), (mem_live W.sz).mpr ⟨hj, z⟩, rfl⟩
  have len : (liveOf M owner).length = hs.size := by
    obtain ⟨ps, lps, inps⟩ := W.ps
    have up := nat_nodup_len ((liveOf M owner).map fun q : Nat × Nat => q.1) ps (risen.1.imp fun z => Nat.ne_of_lt z) fun x hx => by
      obtain ⟨q, hq, rfl⟩ := List.mem_map.mp hx
      exact inps _ (mem q hq).1 (by rw [(mem q hq).2]; exact fun z => nomatch z)
    have dn := nat_nodup_len (List.range hs.size) ((liveOf M owner).map fun q : Nat × Nat => q.2) List.nodup_range fun k hk => each k (List.mem_range.mp hk)
    rw [List.length_map, lps, Array.length_toList] at up
    rw [List.length_map, List.length_range] at dn
    exact Nat.le_antisymm up dn
  refine ⟨_, _, told, perm_range hs.size _ (by simpa using len) each, ⟨risen.1, rfl, by simp [tabOf], hM, fun x hx => ?_, fun q hq => ?_⟩, rfl, rfl⟩
  · obtain ⟨q, hq, rfl⟩ := List.mem_map.mp (show x ∈ (liveOf M owner).map (·.1) from hx)
    exact (mem q hq).1
  · rw [show (tabOf t M owner).place.toList = (liveOf M owner).map (·.1) from rfl, show (((liveOf M owner).map (·.2)).toArray.toList.map fun i => hs.getD i 0) = (liveOf M owner).map fun r => hs.getD r.2 0 by simp, List.zip_map'] at hq
    obtain ⟨r, hr, rfl⟩ := List.mem_map.mp hq
    obtain ⟨z1, z2⟩ := mem r hr
    obtain ⟨h, n, a1, a2, a3⟩ := W.at_ r.1 r.2 z1 z2
    have eh : hs.getD r.2 0 = h := by rw [Array.getD_eq_getD_getElem?, ← Array.getElem?_toList, a1]; rfl
    dsimp only
    rw [eh]
    refine ⟨n, a2, fun n' hn' => ?_⟩
    show way M h n' ∈ (liveOf M owner).map (·.1)
    cases z : oAt owner (way M h n') with
    | none => exact absurd z (a3 n' hn')
    | some k => exact List.mem_map.mpr ⟨(_, k), (mem_live W.sz).mpr ⟨way_in h n', z⟩, rfl⟩
theorem size_of_5 : SetTable.sizeAbove (SetTable.grown 5) = 32 := by decide +kernel
theorem size_of_19 : SetTable.sizeAbove (SetTable.grown 19) = 128 := by decide +kernel
theorem size_of_77 : SetTable.sizeAbove (SetTable.grown 77) = 512 := by decide +kernel
theorem size_of_307 : SetTable.sizeAbove (SetTable.grown 307) = 2048 := by decide +kernel
theorem size_of_1229 : SetTable.sizeAbove (SetTable.grown 1229) = 8192 := by decide +kernel
end NS
set_option Elab.async false
set_option linter.all false
set_option maxRecDepth 100000
set_option maxHeartbeats 1000000
namespace NS
open PySem PySem.Spec PyProof.Rows L2
section
variable {P : Program} {w : World}
/-- what a look at a key tells, whoever asks -/
abbrev Tells (P : Program) (w : World) (s : Shared) (m : Sem Bool) (b : Bool) : Prop := ∀ (A : Around) (E : Value → Shared → Prop) (Q : Bool → Shared → Prop), Q b s → wpAny (model P w) A m Q E s
/-- .. or one of both -/
abbrev TellsAny (P : Program) (w : World) (s : Shared) (m : Sem Bool) : Prop := ∀ (A : Around) (E : Value → Shared → Prop) (Q : Bool → Shared → Prop), (∀ b, Q b s) → wpAny (model P w) A m Q E s
theorem cls_tup {n : Nat} {s : Shared} {a : Addr} {o : Obj} {vs : Array Value} {m : Nat} (ho : s.heap.get? a = some o) (hc : o.cls = .type "tuple") (hd : o.data = .seq vs m) (hq : ∀ v ∈ vs.toList, Tells P w s (ofAClassStatement n v) false) :
    Tells P w s (ofAClassStatement (n + 1) (.ref a)) false := fun A E Q h => by
  have ty : s.TypeIs (.ref a) "tuple" := ⟨o, ho, hc⟩
  unfold ofAClassStatement
  refine wpAny_bind (wpAny_typeOf ty ?_)
  have et : ("tuple" == "tuple") = true := by decide
  simp only [et, if_true, Bool.not_true, Bool.false_eq_true, if_false]
  try refine wpAny_bind (wpAny_pure ?_)
  try simp only [Bool.not_true, Bool.false_eq_true, if_false]
  refine wpAny_bind (m := seqItems? (.ref a)) (wpAny_seqItems ho hd ?_)
  refine wpAny_bind ?_
  show wpAny _ _ (forIn vs _ _) _ _ s
  rw [← Array.forIn_toList]
  exact wpAny_forIn_list _ (fun left acc s1 => acc.1 = none ∧ s1 = s ∧ ∀ v ∈ left, Tells P w s (ofAClassStatement n v) false) _ (fun v left acc s1 ⟨h1, h2, h3⟩ => by
    subst h2
    refine wpAny_bind (h3 v List.mem_cons_self _ _ _ ?_)
    simp only [Bool.false_eq_true, if_false]
    exact wpAny_pure ⟨rfl, rfl, fun u hu => h3 u (List.mem_cons_of_mem _ hu)⟩) (fun ⟨a1, a2⟩ s1 ⟨h1, h2, _⟩ => by
    simp only at h1
    subst h1 h2
    exact wpAny_pure h) _ _ ⟨rfl, rfl, hq⟩
theorem hby_tup {n : Nat} {s : Shared} {a : Addr} {o : Obj} {vs : Array Value} {m : Nat} (ho : s.heap.get? a = some o) (hc : o.cls = .type "tuple") (hd : o.data = .seq vs m) (hq : ∀ v ∈ vs.toList, TellsAny P w s (hashByValue n v)) :
    TellsAny P w s (hashByValue (n + 1) (.ref a)) := fun A E Q h => by
  have ty : s.TypeIs (.ref a) "tuple" := ⟨o, ho, hc⟩
  unfold hashByValue
  refine wpAny_bind (wpAny_specialOf ty F.slot_tuple_hash.lookup ?_)
  refine wpAny_bind (m := seqItems? (.ref a)) (wpAny_seqItems ho hd ?_)
  refine wpAny_bind ?_
  show wpAny _ _ (forIn vs _ _) _ _ s
  rw [← Array.forIn_toList]
  refine wpAny_forIn_list _ (fun left acc s1 => acc.1 = none ∧ s1 = s ∧ ∀ v ∈ left, TellsAny P w s (hashByValue n v)) _ (fun v left acc s1 ⟨h1, h2, h3⟩ => ?_) (fun ⟨a1, a2⟩ s1 ⟨h1, h2, _⟩ => ?_) _ _ ⟨rfl, rfl, hq⟩
  · subst h2
    refine wpAny_bind (h3 v List.mem_cons_self _ _ _ fun b => ?_)
    cases b with
    | true =>
      simp only [Bool.not_true, Bool.false_eq_true, if_false]
      exact wpAny_pure ⟨rfl, rfl, fun u hu => h3 u (List.mem_cons_of_mem _ hu)⟩
    | false =>
      simp only [Bool.not_false, if_true]
      exact wpAny_pure (wpAny_pure (h false))
  · simp only at h1
    subst h1 h2
    exact wpAny_pure (h true)
mutual
theorem cls_key : ∀ (k : NestedKey) (v : Value) (n : Nat) (s : Shared), NestedIs s.heap k v → k.depth ≤ n → Tells P w s (ofAClassStatement n v) false
  | .none, _, n, s, x, _ => by cases x; intro A E Q h; cases n <;> exact wpAny_pure h
  | .num i, _, n, s, x, _ => by cases x <;> (intro A E Q h; cases n <;> exact wpAny_pure h)
  | .text y, _, n, s, x, _ => by cases x; intro A E Q h; cases n <;> exact wpAny_pure h
  | .tup ks, _, n, s, x, hn => by
    cases x with
    | tup hg hc hd hk =>
      simp only [NestedKey.depth] at hn
      cases n with
      | zero => omega
      | succ n => exact cls_tup hg hc hd (cls_keys ks _ n s hk (by omega))
theorem cls_keys : ∀ (ks : List NestedKey) (vs : List Value) (n : Nat) (s : Shared), NestedAll s.heap ks vs → NestedKey.depthAll ks ≤ n → ∀ v ∈ vs, Tells P w s (ofAClassStatement n v) false
  | [], _, n, s, x, _, v, hv => by cases x; cases hv
  | k :: ks, _, n, s, x, hn, v, hv => by
    cases x with
    | cons x1 x2 =>
      simp only [NestedKey.depthAll] at hn
      rcases List.mem_cons.mp hv with e | hv
      · subst e; exact cls_key k _ n s x1 (by omega)
      · exact cls_keys ks _ n s x2 (by omega) v hv
end
mutual
theorem hby_key : ∀ (k : NestedKey) (v : Value) (n : Nat) (s : Shared), NestedIs s.heap k v → k.depth ≤ n → TellsAny P w s (hashByValue n v)
  | .none, _, n, s, x, _ => by cases x; intro A E Q h; cases n <;> exact wpAny_pure (h _)
  | .num i, _, n, s, x, _ => by cases x <;> (intro A E Q h; cases n <;> exact wpAny_pure (h _))
  | .text y, _, n, s, x, _ => by cases x; intro A E Q h; cases n <;> exact wpAny_pure (h _)
  | .tup ks, _, n, s, x, hn => by
    cases x with
    | tup hg hc hd hk =>
      simp only [NestedKey.depth] at hn
      cases n with
      | zero => omega
      | succ n => exact hby_tup hg hc hd (hby_keys ks _ n s hk (by omega))
theorem hby_keys : ∀ (ks : List NestedKey) (vs : List Value) (n : Nat) (s : Shared), NestedAll s.heap ks vs → NestedKey.depthAll ks ≤ n → ∀ v ∈ vs, TellsAny P w s (hashByValue n v)
  | [], _, n, s, x, _, v, hv => by cases x; cases hv
  | k :: ks, _, n, s, x, hn, v, hv => by
    cases x with
    | cons x1 x2 =>
      simp only [NestedKey.depthAll] at hn
      rcases List.mem_cons.mp hv with e | hv
      · subst e; exact hby_key k _ n s x1 (by omega)
      · exact hby_keys ks _ n s x2 (by omega) v hv
end
/-- the tuple at b is the key k -/
structure Kat (h : Heap) (k : NestedKey) (b : Addr) : Prop where
  is : NestedIs h k (.ref b)
  dp : k.depth ≤ 8
theorem Kat.keep {h h' : Heap} {k : NestedKey} {b : Addr} (x : Kat h k b) (hk : ∀ c o, h.get? c = some o → h'.get? c = some o) : Kat h' k b := ⟨x.is.at (fun a o _ _ e _ => hk a o e) k _ , x.dp⟩
theorem Kat.but {h h' : Heap} {k : NestedKey} {a b : Addr} {o : Obj} {es : Array (Int × Value)} {ep : Nat} {t : SetTable} (x : Kat h k b) (ho : h.get? a = some o) (hd : o.data = .set es ep t) (hs : Heap.SameBut a h h') : Kat h' k b :=
  ⟨NestedIs.at (fun c u vs n e1 e2 => (hs.2 c fun e => by
    subst e
    rw [ho] at e1
    cases e1
    rw [hd] at e2
    cases e2).trans e1) k _ x.is, x.dp⟩
theorem Kat.one {h : Heap} {x y : NestedKey} {b : Addr} (hx : Kat h x b) (hy : Kat h y b) : x = y := NestedIs.inj x y _ hx.is hy.is
theorem Kat.eq {s : Shared} {x y : NestedKey} {a b : Addr} {A : Around} {E : Value → Shared → Prop} {Q : Bool → Shared → Prop} (hu : A.units + 8 < cLine) (hx : Kat s.heap x a) (hy : Kat s.heap y b) (h : Q (decide (x = y)) s) : wpAny (model P w) A (eqBool (.ref a) (.ref b)) Q E s :=
  (nestedKind P w).eqBool hu ⟨hx.is, hx.dp⟩ ⟨hy.is, hy.dp⟩ h
/-- a search among such tuples shows nothing -/
theorem seen_none {s : Shared} {k : NestedKey} {b : Addr} {A : Around} {E : Value → Shared → Prop} {Q : Bool → Shared → Prop} (hk : Kat s.heap k b) {ys : List Value} (hy : ∀ y ∈ ys, ∃ k' c, y = Value.ref c ∧ Kat s.heap k' c) (h : Q false s) :
    wpAny (model P w) A (searchCouldBeSeen (.ref b) ys) Q E s := by
  unfold searchCouldBeSeen
  refine wpAny_bind (wpAny_forIn_list _ (fun left acc s1 => acc.1 = none ∧ s1 = s ∧ ∀ y ∈ left, ∃ k' c, y = Value.ref c ∧ Kat s.heap k' c) _ (fun v left acc s1 ⟨h1, h2, h3⟩ => ?_) (fun ⟨a1, a2⟩ s1 ⟨h1, h2, _⟩ => ?_) _ _ ⟨rfl, rfl, hy⟩)
  · subst h2
    obtain ⟨k', c, e, hc⟩ := h3 v List.mem_cons_self
    subst e
    have next := fun u hu => h3 u (List.mem_cons_of_mem _ hu)
    dsimp only
    by_cases same : (b == c || (carriedByValue (.ref b) && carriedByValue (.ref c))) = true
    · exact wp_if_pos same (wpAny_pure ⟨rfl, rfl, next⟩)
    refine wp_if_neg same (wpAny_bind ((nestedKind P w).quiet ⟨hk.is, hk.dp⟩ ?_))
    simp only [Bool.not_true, Bool.false_eq_true, if_false]
    refine wpAny_bind ((nestedKind P w).quiet ⟨hc.is, hc.dp⟩ ?_)
    simp only [Bool.not_true, Bool.false_eq_true, if_false]
    refine wpAny_bind (cls_key k _ 8 _ hk.is hk.dp _ _ _ ?_)
    simp only [Bool.false_eq_true, if_false]
    refine wpAny_bind (cls_key k' _ 8 _ hc.is hc.dp _ _ _ ?_)
    simp only [Bool.false_eq_true, if_false]
    exact wpAny_pure ⟨rfl, rfl, next⟩
  · simp only at h1
    subst h1 h2
    exact wpAny_pure h
end
section
variable {P : Program} {w : World}
/-- the rows of the set, by the keys at their addresses -/
def rowsN (w : World) (L : List (Addr × NestedKey)) : List (Int × Value) := L.map fun r => (r.2.hash w, Value.ref r.1)
abbrev hsN (w : World) (L : List (Addr × NestedKey)) : List Int := L.map fun r => r.2.hash w
structure NSet (w : World) (h : Heap) (a : Addr) (L : List (Addr × NestedKey)) (es : Array (Int × Value)) (ep : Nat) (t : SetTable) : Prop where
  obj : ∃ o, h.get? a = some o ∧ o.ExactSet ∧ o.data = .set es ep t
  row : es.toList = rowsN w L
  tb : TabG t (hsN w L)
  uniq : (L.map (·.2)).Nodup
  key : ∀ r ∈ L, Kat h r.2 r.1
  led : w.params.followText "set-order" = true ∨ t.led = true
  free : L.length * 5 < t.mask * 3
  few : L.length < 4096
section
variable {s : Shared} {a : Addr} {L : List (Addr × NestedKey)} {es : Array (Int × Value)} {ep : Nat} {t : SetTable}
theorem rows_len (e : es.toList = rowsN w L) : es.size = L.length := by
  rw [← Array.length_toList, e]; unfold rowsN; exact List.length_map ..
theorem NSet.fit (S : NSet w s.heap a L es ep t) : t.fits es.size = true := by
  have z := S.tb.sz
  rw [List.length_map] at z
  have f := S.free
  rw [rows_len S.row]
  unfold SetTable.fits SetTable.fill
  rw [S.tb.dm, Bool.and_eq_true, beq_iff_eq, decide_eq_true_eq]
  refine ⟨z, ?_⟩
  show t.place.size + 0 ≤ t.mask
  omega
theorem NSet.get (S : NSet w s.heap a L es ep t) {i : Nat} {r : Addr × NestedKey} (e : L[i]? = some r) : es[i]? = some (r.2.hash w, Value.ref r.1) := by
  rw [← Array.getElem?_toList, S.row, rowsN, List.getElem?_map, e]; rfl
/-- the probe behind c steps -/
abbrev prb (m : Nat) (h : Int) (c : Nat) : SetTable.Probe := nth m (runAt m (SetTable.bits h % (m + 1)) (SetTable.bits h)) c
theorem prb_add (m : Nat) (h : Int) (c q : Nat) : nth m (prb m h c) q = prb m h (c + q) := (nth_add m c _ q).symm
theorem nodummy (m : Nat) : ∀ (n : Nat) (p : SetTable.Probe), p.dummy = none → (nth m p n).dummy = none
  | 0, _, e => e
  | n + 1, p, e => nodummy m n (adv m p) (by unfold adv; split <;> exact e)
theorem search_on {A : Around} {E : Value → Shared → Prop} (S : NSet w s.heap a L es ep t) {x : Addr} {k : NestedKey} (hx : Kat s.heap k x) (hu : A.units + 8 < cLine) {N : Nat} (hN : N < 10 * SetTable.turns t.mask)
    (hend : way t.mask (k.hash w) N ∉ t.place.toList) (hbef : ∀ c, c < N → way t.mask (k.hash w) c ∈ t.place.toList) {Q : SetFound → Shared → Prop}
    (yes : k ∈ L.map (·.2) → Q (.there none) s) (no : k ∉ L.map (·.2) → Q (.free (way t.mask (k.hash w) N) false) s) :
    ∀ (f c : Nat) (stand : Option SetTable.Probe), stand.getD (t.probeStart (k.hash w)) = prb t.mask (k.hash w) c → c ≤ N → N - c < f →
      (∀ (i : Nat) r, L[i]? = some r → r.2 = k → ∃ c', c ≤ c' ∧ c' < N ∧ t.place.toList[i]? = some (way t.mask (k.hash w) c')) →
      wpAny (model P w) A (setSearchFrom a (.ref x) (k.hash w) true f stand) Q E s := by
  obtain ⟨o, ho, hex, hd⟩ := S.obj
  generalize hh : k.hash w = kh at *
  intro f
  induction f with
  | zero => intro c stand _ _ z _; omega
  | succ f again =>
    intro c stand hst hc hf later
    rw [setSearchFrom_succ]
    refine wpAny_bind (wpAny_setState_of ho hd S.fit ?_)
    dsimp only
    have hgw : ¬ t.gaveWay = true := by unfold SetTable.gaveWay; rw [S.tb.mok.odd]; decide
    refine wp_if_neg hgw ?_
    try refine wpAny_bind (wpAny_pure ?_)
    have here : ∀ q, (nth t.mask (prb t.mask kh c) q).j = way t.mask kh (c + q) := fun q => congrArg SetTable.Probe.j (prb_add t.mask kh c q)
    have atN : c + (N - c) = N := by omega
    have told := go_spec t S.tb.ris S.tb.dm (fun i => (es[i]?.map (·.1)).getD 0) kh (10 * SetTable.turns t.mask) (N - c) _ (nodummy t.mask c (runAt t.mask (SetTable.bits kh % (t.mask + 1)) (SetTable.bits kh)) rfl) (by omega)
      (fun q hq => by rw [here]; exact hbef _ (by omega)) (by rw [here, atN]; exact hend)
    have hashOf : ∀ (i : Nat) r, L[i]? = some r → (es[i]?.map (·.1)).getD 0 = r.2.hash w := fun i r e => by rw [S.get e]; rfl
    rcases told with ⟨q, i, hq, hi, _, before, told⟩ | ⟨before, told⟩
    · -- one of equal hash stands there
      have told' : t.probe (fun i => (es[i]?.map (·.1)).getD 0) kh (stand.getD (t.probeStart kh)) = some (.candidate (way t.mask kh (c + q)) i (prb t.mask kh (c + (q + 1)))) := by rw [hst, ← here, ← prb_add]; exact told
      rw [told']
      dsimp only
      rw [here] at hi
      have hiL : i < L.length := by
        have z1 := (List.getElem?_eq_some_iff.mp hi).1
        have z2 := S.tb.sz
        rw [List.length_map] at z2
        rw [Array.length_toList] at z1
        omega
      obtain ⟨r, hr⟩ : ∃ r, L[i]? = some r := ⟨_, List.getElem?_eq_getElem hiL⟩
      have hrm := List.mem_of_getElem? hr
      have slot := slot_live S.tb.ris hi
      have go : wpAny (model P w) A (searchRest a (.ref x) kh true f es t (way t.mask kh (c + q)) i (prb t.mask kh (c + (q + 1)))) Q E s := by
        unfold searchRest
        rw [S.get hr]
        dsimp only
        refine wpAny_bind (wpAny_holding (Kat.eq hu (S.key r hrm) hx (wpAny_bind (wpAny_setState_of ho hd S.fit ?_))))
        dsimp only
        by_cases hrk : r.2 = k
        · exact wp_if_pos (by simp [hrk]) (wpAny_pure (yes (List.mem_map.mpr ⟨r, hrm, hrk⟩)))
        refine wp_if_neg (by simp [hrk]) ?_
        try refine wpAny_bind (wpAny_pure ?_)
        rw [sameMem]
        dsimp only
        simp only [if_true, slot, S.get hr]
        refine wpAny_bind (wpAny_isSame_ref_self (wpAny_bind (wpAny_pure ?_)))
        simp only [if_true]
        refine wp_if_neg (by simp [hrk]) (again (c + (q + 1)) _ rfl (by omega) (by omega) fun i' r' hr' hk' => ?_)
        obtain ⟨c', z1, z2, z3⟩ := later i' r' hr' hk'
        refine ⟨c', ?_, z2, z3⟩
        rcases Nat.lt_trichotomy c' (c + q) with y | y | y
        · refine absurd ((hashOf i' r' hr').trans (by rw [hk']; exact hh)) (before (c' - c) i' (by omega) ?_)
          rw [here, show c + (c' - c) = c' by omega]; exact z3
        · rw [y] at z3
          have e := slot_live S.tb.ris z3
          rw [slot] at e
          injection e with e
          rw [← e, hr] at hr'
          exact absurd ((congrArg Prod.snd (Option.some.inj hr')).trans hk') hrk
        · omega
      by_cases hl : t.led = true
      · refine wp_if_neg (by simp [hl]) ?_
        try refine wpAny_bind (wpAny_pure ?_)
        exact go
      · refine wp_if_pos (by simp [hl]) (wpAny_bind (seen_none hx (fun y hy => ?_) ?_))
        · obtain ⟨e, he, rfl⟩ := List.mem_map.mp hy
          have he' : e ∈ es.toList := by
            have : e ∈ es ∧ e.1 = kh := by simpa using he
            simpa using this.1
          rw [S.row] at he'
          obtain ⟨r2, hr2, rfl⟩ := List.mem_map.mp he'
          exact ⟨r2.2, r2.1, rfl, S.key r2 hr2⟩
        · refine wp_if_neg (by decide) ?_
          try refine wpAny_bind (wpAny_pure ?_)
          exact go
    · -- an empty slot
      have told' : t.probe (fun i => (es[i]?.map (·.1)).getD 0) kh (stand.getD (t.probeStart kh)) = some (.empty (way t.mask kh N) none) := by
        have e := here (N - c)
        rw [atN] at e
        rw [hst, ← e]
        exact told
      rw [told']
      dsimp only
      refine wpAny_pure (no fun hm => ?_)
      obtain ⟨r0, hr0, hk0⟩ := List.mem_map.mp hm
      obtain ⟨i0, hi0⟩ := List.getElem?_of_mem hr0
      obtain ⟨c', z1, z2, z3⟩ := later i0 r0 hi0 hk0
      refine before (c' - c) i0 (by omega) ?_ ((hashOf i0 r0 hi0).trans (by rw [hk0]; exact hh))
      rw [here, show c + (c' - c) = c' by omega]; exact z3
end
end
section
variable {P : Program} {w : World} {A : Around} {E : Value → Shared → Prop} {s : Shared} {a : Addr} {L : List (Addr × NestedKey)} {es : Array (Int × Value)} {ep : Nat} {t : SetTable}
theorem search_all (S : NSet w s.heap a L es ep t) {x : Addr} {k : NestedKey} (hx : Kat s.heap k x) (hu : A.units + 8 < cLine) {Q : SetFound → Shared → Prop} (yes : k ∈ L.map (·.2) → Q (.there none) s)
    (no : ∀ N, k ∉ L.map (·.2) → way t.mask (k.hash w) N ∉ t.place.toList → (∀ c, c < N → way t.mask (k.hash w) c ∈ t.place.toList) → Q (.free (way t.mask (k.hash w) N) false) s) :
    wpAny (model P w) A (setSearch a (.ref x) (k.hash w) true) Q E s := by
  have fr := S.free
  obtain ⟨N, n1, n2, n3⟩ := S.tb.first (by rw [List.length_map]; omega) (k.hash w)
  have n4 : N < 100000 := by
    have : SetTable.turns t.mask ≤ 8206 := by unfold SetTable.turns; have := S.tb.mok.le; omega
    omega
  unfold setSearch
  refine search_on S hx hu n1 n2 n3 yes (fun hn => no N hn n2 n3) 100000 0 none rfl (Nat.zero_le _) (by omega) fun i r hr hk => ?_
  have hh : (hsN w L)[i]? = some (k.hash w) := by rw [List.getElem?_map, hr, ← hk]; rfl
  have hi : i < t.place.toList.length := by
    have z1 := (List.getElem?_eq_some_iff.mp hr).1
    have z2 := S.tb.sz
    rw [List.length_map] at z2
    rw [Array.length_toList, z2]; exact z1
  have hj := List.getElem?_eq_getElem hi
  obtain ⟨c, c1, c2⟩ := S.tb.before n2 hh hj
  exact ⟨c, Nat.zero_le _, c1, by rw [hj, c2]⟩
theorem rows_ins (L : List (Addr × NestedKey)) (n : Nat) (x : Addr) (k : NestedKey) : (rowsN w L).take n ++ (k.hash w, Value.ref x) :: (rowsN w L).drop n = rowsN w (L.take n ++ (x, k) :: L.drop n) := by
  simp only [rowsN, List.map_append, List.map_cons, List.map_take, List.map_drop]
/-- the rows in another order -/
theorem rows_reorder (L : List (Addr × NestedKey)) (es : Array (Int × Value)) (ord : Array Nat) (hr : es.toList = rowsN w L) (hp : ord.toList.Perm (List.range L.length)) :
    ∃ L2, (ord.filterMap fun i => es[i]?).toList = rowsN w L2 ∧ L2.Perm L ∧ hsN w L2 = ord.toList.map fun i => (es.map (·.1)).getD i 0 := by
  have size := rows_len hr
  have row : ∀ (i : Nat) (r : Addr × NestedKey), L[i]? = some r → es[i]? = some (r.2.hash w, Value.ref r.1) := fun i r e => by rw [← Array.getElem?_toList, hr, rowsN, List.getElem?_map, e]; rfl
  refine ⟨ord.toList.filterMap fun i => L[i]?, ?_, ?_, ?_⟩
  · rw [Array.toList_filterMap]
    have inb : ∀ i ∈ ord.toList, i < L.length := fun i hi => List.mem_range.mp (hp.mem_iff.mp hi)
    generalize ord.toList = l at inb
    induction l with
    | nil => rfl
    | cons i l ih =>
      obtain ⟨r, e⟩ : ∃ r, L[i]? = some r := ⟨_, List.getElem?_eq_getElem (inb i List.mem_cons_self)⟩
      rw [List.filterMap_cons_some (row i r e), List.filterMap_cons_some e, ih fun j hj => inb j (List.mem_cons_of_mem _ hj)]
      rfl
  · refine (hp.filterMap _).trans ?_
    have all : ∀ n, n ≤ L.length → (List.range n).filterMap (fun i => L[i]?) = L.take n := by
      intro n
      induction n with
      | zero => intro _; rfl
      | succ n ih =>
        intro hn
        rw [List.range_succ, List.filterMap_append, ih (by omega), List.take_add_one]
        rw [List.getElem?_eq_getElem (show n < L.length by omega), List.filterMap_cons_some (List.getElem?_eq_getElem (show n < L.length by omega))]; rfl
    have := all L.length (Nat.le_refl _)
    rw [List.take_length] at this
    rw [this]
  · have inb : ∀ i ∈ ord.toList, i < L.length := fun i hi => List.mem_range.mp (hp.mem_iff.mp hi)
    generalize ord.toList = l at inb
    induction l with
    | nil => rfl
    | cons i l ih =>
      obtain ⟨r, e⟩ : ∃ r, L[i]? = some r := ⟨_, List.getElem?_eq_getElem (inb i List.mem_cons_self)⟩
      have h1 : (es.map (·.1)).getD i 0 = r.2.hash w := by
        have : (es.map (·.1))[i]? = some (r.2.hash w) := by rw [Array.getElem?_map, row i r e]; rfl
        simp [Array.getD_eq_getD_getElem?, this]
      have ih' := ih fun j hj => inb j (List.mem_cons_of_mem _ hj)
      unfold hsN at ih' ⊢
      rw [List.filterMap_cons_some e, List.map_cons, List.map_cons, ih', h1]
/-- the table is laid anew, larger -/
theorem relay {o : Obj} (ho : s.heap.get? a = some o) (hex : o.ExactSet) (hd : o.data = .set es ep t) (hrow : es.toList = rowsN w L) (hsz : t.place.size = es.size) (hdm : t.dummies = #[]) (hfl : es.size ≤ t.mask) (uniq : (L.map (·.2)).Nodup)
    (key : ∀ r ∈ L, Kat s.heap r.2 r.1) (led : w.params.followText "set-order" = true ∨ t.led = true) (few : L.length < 4096) {want M : Nat} (hw : SetTable.sizeAbove want - 1 = M) (hM : MaskG M) (h128 : SetTable.sizeAbove want ≤ 8192) (hn : L.length * 5 < M * 3)
    {Q : Unit → Shared → Prop} (hQ : ∀ h' L' es' ep' t', Heap.SameBut a s.heap h' → NSet w h' a L' es' ep' t' → L'.Perm L → Q () { s with heap := h' }) : wpAny (model P w) A (setRelay a want) Q E s := by
  have size := rows_len hrow
  have fit : t.fits es.size = true := by
    unfold SetTable.fits SetTable.fill
    rw [hdm, Bool.and_eq_true, beq_iff_eq, decide_eq_true_eq]
    refine ⟨hsz, ?_⟩
    show t.place.size + 0 ≤ t.mask
    omega
  obtain ⟨t', ord, told, hp, T, em, el⟩ := laid_anew t (hs := es.map (·.1)) (want := want) hw hM (by rw [Array.size_map, size]; omega)
  rw [Array.size_map, size] at hp
  obtain ⟨L2, r1, r2, r3⟩ := rows_reorder L es ord hrow hp
  rw [← r3] at T
  have size2 : (ord.filterMap fun i => es[i]?).size = es.size := by rw [rows_len r1, r2.length_eq, size]
  rw [setRelay_eq]
  refine wpAny_bind (wpAny_setState_of ho hd fit ?_)
  dsimp only
  refine wp_if_neg (by rw [sizeLine_eq]; omega) ?_
  try refine wpAny_bind (wpAny_pure ?_)
  rw [told]
  dsimp only
  refine wpAny_bind (wp_if_neg (by rw [size2]; simp) ?_)
  try refine wpAny_bind (wpAny_pure ?_)
  refine wpAny_pure ?_
  dsimp only
  refine wpAny_storeSet_of ho hd ?_ (by rw [size2, size, sizeLine_eq]; omega)
  have but : Heap.SameBut a s.heap (s.heap.update a (Obj.putSet (ord.filterMap fun i => es[i]?) t')) := Heap.SameBut.update ..
  exact hQ _ L2 _ (ep + 1) t' but ⟨⟨_, store_at ho hd, ⟨hex.1, hex.2.1, hex.2.2⟩, rfl⟩, r1, T, (r2.map (·.2)).nodup_iff.mpr uniq, fun r hr => (key r (r2.mem_iff.mp hr)).but ho hd but, by rw [el]; exact led, by rw [r2.length_eq, em]; exact hn, by rw [r2.length_eq]; exact few⟩ r2
end
section
variable {P : Program} {w : World} {A : Around} {E : Value → Shared → Prop} {s : Shared} {a : Addr} {L : List (Addr × NestedKey)} {es : Array (Int × Value)} {ep : Nat} {t : SetTable}
theorem ins_perm {α : Type} (L : List α) (n : Nat) (x : α) : (L.take n ++ x :: L.drop n).Perm (x :: L) := by
  refine List.perm_middle.trans (List.Perm.cons x ?_)
  rw [List.take_append_drop]
theorem TabG.fl {t u : SetTable} {hs : List Int} (T : TabG t hs) (h1 : u.place = t.place) (h2 : u.dummies = t.dummies) (h3 : u.mask = t.mask) : TabG u hs :=
  ⟨by rw [h1]; exact T.ris, by rw [h2]; exact T.dm, by rw [h1]; exact T.sz, by rw [h3]; exact T.mok, by rw [h1, h3]; exact T.bd, by rw [h1, h3]; exact T.found⟩
/-- what is left to be done when the new slot is known -/
theorem put_in (S : NSet w s.heap a L es ep t) {x : Addr} {k : NestedKey} (hx : Kat s.heap k x) (hfew : L.length + 1 < 4096) (hm : k ∉ L.map (·.2)) {n : Nat} {u : SetTable} (T : TabG u ((hsN w L).take n ++ k.hash w :: (hsN w L).drop n)) (eM : u.mask = t.mask) (eL : u.led = t.led)
    {Q : Bool → Shared → Prop} (hQ : ∀ h' L' es' ep' t', Heap.SameBut a s.heap h' → NSet w h' a L' es' ep' t' → L'.Perm ((x, k) :: L) → Q true { s with heap := h' }) :
    wpAny (model P w) A (storeSet a (SetTable.insertAt es n (k.hash w, .ref x)) u >>= fun _ => if u.tooFull = true then setRelay a (SetTable.grown (es.size + 1)) >>= fun _ => pure true else pure true) Q E s := by
  obtain ⟨o, ho, hex, hd⟩ := S.obj
  have size := rows_len S.row
  have room := S.free
  have er : (SetTable.insertAt es n (k.hash w, Value.ref x)).toList = rowsN w (L.take n ++ (x, k) :: L.drop n) := by rw [SetTable.toList_insertAt, S.row, rows_ins]
  have pm := ins_perm L n (x, k)
  have eh : hsN w (L.take n ++ (x, k) :: L.drop n) = (hsN w L).take n ++ k.hash w :: (hsN w L).drop n := by simp only [hsN, List.map_append, List.map_cons, List.map_take, List.map_drop]
  rw [← eh] at T
  generalize L.take n ++ (x, k) :: L.drop n = L1 at er pm T
  generalize SetTable.insertAt es n (k.hash w, Value.ref x) = es1 at er ⊢
  have len1 : L1.length = L.length + 1 := pm.length_eq
  have size1 : es1.size = L.length + 1 := by rw [rows_len er, len1]
  have uniq1 : (L1.map (·.2)).Nodup := (pm.map (·.2)).nodup_iff.mpr (List.nodup_cons.mpr ⟨hm, S.uniq⟩)
  refine wpAny_bind (wpAny_storeSet_of ho hd ?_ (by rw [size1, sizeLine_eq]; omega))
  have but : Heap.SameBut a s.heap (s.heap.update a (Obj.putSet es1 u)) := Heap.SameBut.update ..
  have at1 := store_at (es' := es1) (t' := u) ho hd
  have key1 : ∀ r ∈ L1, Kat (s.heap.update a (Obj.putSet es1 u)) r.2 r.1 := fun r hr => by
    rcases List.mem_cons.mp (pm.mem_iff.mp hr) with e | hr
    · subst e; exact hx.but ho hd but
    · exact (S.key r hr).but ho hd but
  have led1 : w.params.followText "set-order" = true ∨ u.led = true := by rw [eL]; exact S.led
  have fill1 : u.fill = L.length + 1 := by
    unfold SetTable.fill
    rw [T.dm]
    have := T.sz
    rw [List.length_map, len1] at this
    rw [this]; rfl
  by_cases full : u.tooFull = true
  · rw [if_pos full]
    have hfull : (L.length + 1) * 5 ≥ t.mask * 3 := by
      unfold SetTable.tooFull at full
      rw [decide_eq_true_eq, fill1, eM] at full
      exact full
    rw [size]
    have two : (t.mask = 7 ∧ L.length = 4) ∨ (t.mask = 31 ∧ L.length = 18) ∨ (t.mask = 127 ∧ L.length = 76) ∨ (t.mask = 511 ∧ L.length = 306) ∨ (t.mask = 2047 ∧ L.length = 1228) := by
      have mok := S.tb.mok
      rcases mok with e | e | e | e | e | e <;> rw [e] at hfull room
      · exact .inl ⟨e, by omega⟩
      · exact .inr (.inl ⟨e, by omega⟩)
      · exact .inr (.inr (.inl ⟨e, by omega⟩))
      · exact .inr (.inr (.inr (.inl ⟨e, by omega⟩)))
      · exact .inr (.inr (.inr (.inr ⟨e, by omega⟩)))
      · omega
    have lay : ∀ M, SetTable.sizeAbove (SetTable.grown (L.length + 1)) - 1 = M → MaskG M → SetTable.sizeAbove (SetTable.grown (L.length + 1)) ≤ 8192 → (L.length + 1) * 5 < M * 3 →
        wpAny (model P w) A (setRelay a (SetTable.grown (L.length + 1)) >>= fun _ => pure true) Q E { s with heap := s.heap.update a (Obj.putSet es1 u) } := fun M m1 m2 m3 m4 =>
      wpAny_bind (relay (s := { s with heap := s.heap.update a (Obj.putSet es1 u) }) at1 ⟨hex.1, hex.2.1, hex.2.2⟩ rfl er (by have := T.sz; rw [List.length_map, len1] at this; rw [this, size1]) T.dm (by rw [size1, eM]; rcases two with ⟨e, e2⟩ | ⟨e, e2⟩ | ⟨e, e2⟩ | ⟨e, e2⟩ | ⟨e, e2⟩ <;> omega) uniq1 key1 led1 (by rw [len1]; exact hfew) m1 m2 m3 (by rw [len1]; exact m4)
        fun h2 L2 es2 ep2 t2 but2 S2 pm2 => wpAny_pure (hQ h2 L2 es2 ep2 t2 (but.trans but2) S2 (pm2.trans pm)))
    rcases two with ⟨_, e⟩ | ⟨_, e⟩ | ⟨_, e⟩ | ⟨_, e⟩ | ⟨_, e⟩
    · exact lay 31 (by rw [e, size_of_5]) (.inr (.inl rfl)) (by rw [e, size_of_5]; decide) (by omega)
    · exact lay 127 (by rw [e, size_of_19]) (.inr (.inr (.inl rfl))) (by rw [e, size_of_19]; decide) (by omega)
    · exact lay 511 (by rw [e, size_of_77]) (.inr (.inr (.inr (.inl rfl)))) (by rw [e, size_of_77]; decide) (by omega)
    · exact lay 2047 (by rw [e, size_of_307]) (.inr (.inr (.inr (.inr (.inl rfl))))) (by rw [e, size_of_307]; decide) (by omega)
    · exact lay 8191 (by rw [e, size_of_1229]) (.inr (.inr (.inr (.inr (.inr rfl))))) (by rw [e, size_of_1229]; exact Nat.le_refl _) (by omega)
  · rw [if_neg full]
    refine wpAny_pure (hQ _ L1 es1 (ep + 1) u but ⟨⟨_, at1, ⟨hex.1, hex.2.1, hex.2.2⟩, rfl⟩, er, T, uniq1, key1, led1, ?_, by rw [len1]; exact hfew⟩ pm)
    unfold SetTable.tooFull at full
    rw [decide_eq_true_eq, fill1] at full
    rw [len1]; omega
theorem add_key (S : NSet w s.heap a L es ep t) {x : Addr} {k : NestedKey} (hx : Kat s.heap k x) (hu : A.units + 8 < cLine) (hfew : L.length + 1 < 4096) {Q : Bool → Shared → Prop}
    (old : k ∈ L.map (·.2) → Q false s) (new : ∀ h' L' es' ep' t', k ∉ L.map (·.2) → Heap.SameBut a s.heap h' → NSet w h' a L' es' ep' t' → L'.Perm ((x, k) :: L) → Q true { s with heap := h' }) :
    wpAny (model P w) A (setAddHashed a (.ref x) (k.hash w)) Q E s := by
  obtain ⟨o, ho, hex, hd⟩ := S.obj
  unfold setAddHashed
  refine wpAny_holding ?_
  rw [show (100000 : Nat) = 99999 + 1 from rfl, setAddHashedIn_succ]
  refine wpAny_bind (wpAny_setState_of ho hd S.fit ?_)
  dsimp only
  refine wp_if_neg (by simp [byScan, Value.scannable]) ?_
  try refine wpAny_bind (wpAny_pure ?_)
  refine wpAny_bind (search_all S hx hu (fun hm => wpAny_pure (old hm)) fun N hm hN hb => ?_)
  dsimp only
  refine wpAny_bind (wpAny_setState_of ho hd S.fit ?_)
  dsimp only
  obtain ⟨p1, p2, p3, p4, p5⟩ := S.tb.put hN hb
  generalize t.put (way t.mask (k.hash w) N) = pt at p1 p3 p4 p5 ⊢
  obtain ⟨t1, n⟩ := pt
  dsimp only at p1 p3 p4 p5 ⊢
  subst p1
  have fin : ∀ b : Bool, wpAny (model P w) A (storeSet a (SetTable.insertAt es (SetTable.below t.place (way t.mask (k.hash w) N)) (k.hash w, .ref x)) (if b = true then t1 else { t1 with plain := false }) >>= fun _ =>
      if (if b = true then t1 else { t1 with plain := false }).tooFull = true then setRelay a (SetTable.grown (es.size + 1)) >>= fun _ => pure true else pure true) Q E s := fun b => by
    cases b with
    | true => exact put_in S hx hfew hm p3 p4 p5 fun h' L' es' ep' t' => new h' L' es' ep' t' hm
    | false => exact put_in S hx hfew hm (u := { t1 with plain := false }) (TabG.fl p3 rfl rfl rfl) p4 p5 fun h' L' es' ep' t' => new h' L' es' ep' t' hm
  by_cases hp : t1.plain = true
  · rw [if_pos hp]
    exact wpAny_bind (hby_key k _ 8 s hx.is hx.dp _ _ _ fun b => fin b)
  · rw [if_neg hp]
    exact wpAny_bind (wpAny_pure (fin true))
end
/-- what stands in the set behind i items -/
structure Has (ks : List (Addr × NestedKey)) (i : Nat) (L : List (Addr × NestedKey)) : Prop where
  from_ : ∀ r ∈ L, r ∈ ks.take i
  all : ∀ r ∈ ks.take i, r.2 ∈ L.map (·.2)
  few : L.length ≤ i
theorem Has.old {ks L : List (Addr × NestedKey)} {i : Nat} {r : Addr × NestedKey} (g : Has ks i L) (e : ks[i]? = some r) (hm : r.2 ∈ L.map (·.2)) : Has ks (i + 1) L := by
  have et : ks.take (i + 1) = ks.take i ++ [r] := by rw [List.take_add_one, e]; rfl
  refine ⟨fun q hq => by rw [et]; exact List.mem_append_left _ (g.from_ q hq), fun q hq => ?_, Nat.le_succ_of_le g.few⟩
  rw [et] at hq
  rcases List.mem_append.mp hq with z | z
  · exact g.all q z
  · rw [List.mem_singleton.mp z]; exact hm
theorem Has.new {ks L L2 : List (Addr × NestedKey)} {i : Nat} {r : Addr × NestedKey} (g : Has ks i L) (e : ks[i]? = some r) (pm : L2.Perm (r :: L)) : Has ks (i + 1) L2 := by
  have et : ks.take (i + 1) = ks.take i ++ [r] := by rw [List.take_add_one, e]; rfl
  refine ⟨fun q hq => ?_, fun q hq => ?_, by rw [pm.length_eq]; exact Nat.succ_le_succ g.few⟩
  · rw [et]
    rcases List.mem_cons.mp (pm.mem_iff.mp hq) with z | z
    · exact List.mem_append_right _ (by rw [z]; exact List.mem_singleton.mpr rfl)
    · exact List.mem_append_left _ (g.from_ q z)
  · rw [(pm.map (·.2)).mem_iff]
    rw [et] at hq
    rcases List.mem_append.mp hq with z | z
    · exact List.mem_cons_of_mem _ (g.all q z)
    · rw [List.mem_singleton.mp z]; exact List.mem_cons_self
theorem NSet.stay {w : World} {h h' : Heap} {a : Addr} {L : List (Addr × NestedKey)} {es : Array (Int × Value)} {ep : Nat} {t : SetTable} (S : NSet w h a L es ep t) (ha : ∀ o, h.get? a = some o → h'.get? a = some o) (hk : ∀ r ∈ L, Kat h' r.2 r.1) : NSet w h' a L es ep t :=
  ⟨S.obj.imp fun o ⟨e, r⟩ => ⟨ha o e, r⟩, S.row, S.tb, S.uniq, hk, S.led, S.free, S.few⟩
/-- the object of a set just made -/
abbrev freshO (w : World) : Obj := { cls := .type "set", dict := none, data := .set #[] 0 (.fresh 0 0 (!w.params.followText "set-order")) }
theorem fresh_set {w : World} {h : Heap} {a : Addr} (e : h.get? a = some (freshO w)) : NSet w h a [] #[] 0 (.fresh 0 0 (!w.params.followText "set-order")) where
  obj := ⟨freshO w, e, ⟨rfl, rfl, rfl⟩, rfl⟩
  row := rfl
  tb := ⟨.nil, rfl, rfl, .inl rfl, by simp [SetTable.fresh], by simp⟩
  uniq := .nil
  key := by simp
  led := by
    show _ ∨ (!w.params.followText "set-order") = true
    cases w.params.followText "set-order" <;> simp
  free := by show 0 * 5 < 7 * 3; decide
  few := by show 0 < 4096; decide
section
variable {P : Program} {w : World} {A : Around} {E : Value → Shared → Prop} {s : Shared}
/-- the loop of set.update over what gives such keys -/
theorem update_keys {I : Addr} {fp wr : List Addr} {G : Array GenState → Array GenState → Prop} {n : Nat} {Pv : Nat → Value → Prop} {St : Nat → Shared → Prop} {R : Result → Shared → Prop} (W : WalksS P w A.in1 I fp wr G n Pv St) (S : Addr) (hS : S ∉ fp)
    (ks : List (Addr × NestedKey)) (hn : n = ks.length) (few : ks.length < 4096) (val : ∀ i v, Pv i v → ∃ r, ks[i]? = some r ∧ v = .ref r.1) (h0 : Heap) (hk : ∀ r ∈ ks, Kat h0 r.2 r.1) (noS : h0.get? S = none) (noW : ∀ b ∈ wr, h0.get? b = none) (hu : A.in1.units + 8 < cLine) :
    ∀ (m i : Nat) (s : Shared), n - i = m → i ≤ n → St i s → (∀ b o, h0.get? b = some o → s.heap.get? b = some o) → (∃ L es ep t, NSet w s.heap S L es ep t ∧ Has ks i L) →
      (∀ s' L es ep t, Moved (S :: wr) G s s' → NSet w s'.heap S L es ep t → Has ks n L → (∀ b o, h0.get? b = some o → s'.heap.get? b = some o) → R (.ok (.ret .none)) s') → codeAny (model P w) A (.builtin "set.update.loop" ⟨[.ref S, .ref I], []⟩) R s := by
  have noSw : S ∉ wr := fun z => hS (W.sub _ z)
  have sub : ∀ b ∈ wr, b ∈ S :: wr := fun b hb => List.mem_cons_of_mem S hb
  have stays : ∀ {s s' : Shared}, Moved wr G s s' → (∀ b o, h0.get? b = some o → s.heap.get? b = some o) → ∀ b o, h0.get? b = some o → s'.heap.get? b = some o := fun mv k b o e => mv.heap b o (fun z => by rw [noW b z] at e; cases e) (k b o e)
  have inK : ∀ {i : Nat} {L : List (Addr × NestedKey)}, Has ks i L → ∀ r ∈ L, r ∈ ks := fun g r hr => List.mem_of_mem_take (g.from_ r hr)
  intro m
  induction m with
  | zero =>
    intro i s e hi st k ⟨L, es, ep, t, N, g⟩ end_
    have ei : i = n := by omega
    subst ei
    refine codeAny_builtin F.entry_set_update_loop (by
      rw [Around.under_plainId F.plain_set_update_loop _]
      refine wpAny_bind (m := pyNext (.ref I)) (W.done s _ _ st fun s' mv => ?_)
      have k' := stays mv k
      exact wpAny_pure (end_ s' L es ep t (mv.mono sub) (N.stay (fun o z => mv.heap S o noSw z) fun r hr => (hk r (inK g r hr)).keep k') g k'))
  | succ m again =>
    intro i s e hi st k ⟨L, es, ep, t, N, g⟩ end_
    have hlt : i < n := by omega
    refine codeAny_builtin F.entry_set_update_loop (by
      rw [Around.under_plainId F.plain_set_update_loop _]
      refine wpAny_bind (m := pyNext (.ref I)) (W.item i s _ _ hlt st fun v s' hv st' mv => ?_)
      obtain ⟨r, hr, ev⟩ := val i v hv
      subst ev
      have k' := stays mv k
      have N' : NSet w s'.heap S L es ep t := N.stay (fun o z => mv.heap S o noSw z) fun q hq => (hk q (inK g q hq)).keep k'
      have hx : Kat s'.heap r.2 r.1 := (hk r (List.mem_of_getElem? hr)).keep k'
      -- what is left: the next turn
      have turn : ∀ (h' : Heap) L' es' ep' t', Heap.SameBut S s'.heap h' → NSet w h' S L' es' ep' t' → Has ks (i + 1) L' → codeAny (model P w) A (.builtin "set.update.loop" ⟨[.ref S, .ref I], []⟩) R { s' with heap := h', toks := s'.toks + r.2.draws } := fun h' L' es' ep' t' but N2 g2 =>
        again (i + 1) _ (by omega) hlt (W.frame _ s' _ _ st' (Nat.le_add_right _ _) fun b hb o z => (but.2 b (fun e => hS (e ▸ hb))).trans z) (fun b o z => (but.2 b fun e => by rw [e, noS] at z; cases z).trans (k' b o z)) ⟨L', es', ep', t', N2, g2⟩
          fun s3 L3 es3 ep3 t3 mv3 N3 g3 k3 => end_ s3 L3 es3 ep3 t3 (Moved.trans W.gtrans ((mv.mono sub).then_heap (Nat.le_add_right _ _) fun b o hb z => (but.2 b fun e => hb (by rw [e]; exact List.mem_cons_self)).trans z) mv3) N3 g3 k3
      refine wpAny_bind (m := holding [Value.ref r.1] (setAdd S (.ref r.1))) (wpAny_holding ?_)
      unfold setAdd
      refine wpAny_holding (wpAny_bind (pyHash_key r.2 _ _ _ _ hx.is (by have := hx.dp; omega) ?_))
      exact add_key (s := { s' with toks := s'.toks + r.2.draws }) N' hx hu (by have := g.few; omega) (fun hm => wpAny_pure ⟨plainId_quiet F.plain_set_update_loop _, turn s'.heap L es ep t (Heap.SameBut.refl S s'.heap) N' (g.old hr hm)⟩)
        fun h' L' es' ep' t' _ but N2 pm => wpAny_pure ⟨plainId_quiet F.plain_set_update_loop _, turn h' L' es' ep' t' but N2 (g.new hr pm)⟩)
end
end NS
set_option Elab.async false
set_option linter.all false
set_option maxRecDepth 100000
set_option maxHeartbeats 1000000
namespace NS
open PySem PySem.Spec PyProof.Rows L2
section
variable {P : Program} {w : World} {A : Around} {E : Value → Shared → Prop} {s : Shared}
set_option maxHeartbeats 4000000 in
/-- set(xs), xs a list of such tuples -/
theorem call_set_keys {l : Addr} {items : Array Value} (ks : List (Addr × NestedKey)) {Q : Value → Shared → Prop} (hh : A.handled = none) (hl : s.heap.IsList l items) (hit : items.toList = ks.map fun r => Value.ref r.1) (hk : ∀ r ∈ ks, Kat s.heap r.2 r.1) (few : ks.length < 4096) (hu : A.units + 20 < cLine)
    (h : ∀ (h' : Heap) (tk : Nat) L es ep t, NSet w h' s.heap.objs.size L es ep t → Has ks ks.length L → (∀ b o, s.heap.get? b = some o → h'.get? b = some o) → Q (.ref s.heap.objs.size) { s with heap := h', toks := tk }) : wpAny (model P w) A (call (.type "set") [.ref l]) Q E s := by
  have hisz : items.size = ks.length := by rw [← Array.length_toList, hit, List.length_map]
  obtain ⟨c, tl, hmro⟩ := F.called_set.mro
  have hmade := F.called_set.made; have hsub := F.called_set.sub
  refine wpAny_call (codeAny_of_tree (show wpAny _ _ (callAny (.type "set") _) _ _ _ from wpAny_pure ⟨Code.quiet_builtin _ (by decide +kernel), codeAny_builtin F.entry_type_call ?_⟩))
  rw [Around.under_plain (weight_type_call_type "set" [.ref l] []) rfl]
  have h1 := F.called_set.notType; have h2 := F.called_set.canCreate
  have hct := F.typeCall_set_1 (.ref l)
  repeat (any_goals (first | assumption | wp_step))
  -- the new, empty set
  refine codeAny_mono (code_set_led1 (.ref l) (E := E) (Q₁ := fun v s1 => v = .ref s.heap.objs.size ∧ s1 = { s with heap := s.heap.push (freshO w) }) ⟨rfl, rfl⟩) fun r s1 hr => ?_
  cases r with
  | error e => exact hr
  | ok fl =>
  cases fl with
  | ret v =>
    obtain ⟨rfl, rfl⟩ := hr
    have atS : (s.heap.push (freshO w)).get? s.heap.objs.size = some (freshO w) := Heap.get?_push_size _ rfl
    have tyS : Shared.TypeIs { s with heap := s.heap.push (freshO w) } (.ref s.heap.objs.size) "set" := ⟨_, atS, rfl⟩
    have hli := F.called_set.init.lookup; have hbi := F.called_set.init.bind (.ref s.heap.objs.size)
    repeat (any_goals (first | assumption | wp_step))
    refine codeAny_mono (codeAny_call_builtin (R := wants (fun v s2 => v = .none ∧ ∃ h' tk L es ep t, s2 = { s with heap := h', toks := tk } ∧ NSet w h' s.heap.objs.size L es ep t ∧ Has ks ks.length L ∧ ∀ b o, s.heap.get? b = some o → h'.get? b = some o) E) F.called_set.init.plain F.entry_set_init (check_set_init_1 tyS ?_)) fun r2 s2 hr2 => ?_
    · obtain ⟨⟨ocls, odict, odata, oslots⟩, hol, hcl, nl, hdl⟩ := hl
      simp only at hcl hdl
      subst hcl hdl
      have hol' : (s.heap.push (freshO w)).get? l = some { cls := .type "list", dict := odict, data := .seq items nl, slots := oslots } := Heap.get?_push_of_some _ hol
      have hl1 : (s.heap.push (freshO w)).IsList l items := ⟨_, hol', rfl, nl, rfl⟩
      have hsls := F.sub_list_set; have hslf := F.sub_list_frozenset
      have hne : (Value.type "list" == Value.type "dict") = false := by decide
      unfold Builtin.«set.__init__» noKeywords Builtin.Frozenset.updateFrom
      generalize hPI : pyIter = PI
      wp_walk
      subst hPI
      refine wpAny_pyIter_list hl1 (wpAny_bind (wpAny_runValue ?_))
      have lt := Heap.lt_size hol
      have size1 : (s.heap.push (freshO w)).objs.size = s.heap.objs.size + 1 := Heap.size_push ..
      have gone : ∀ b, s.heap.objs.size ≤ b → s.heap.get? b = none := fun b hb => by
        cases e : s.heap.get? b with
        | none => rfl
        | some o => exact absurd (Heap.lt_size e) (Nat.not_lt.mpr hb)
      refine update_keys ((Walks.list (show A.in1.in1.in1.handled = none by simp [hh]) _ l (by rw [size1]; exact Nat.ne_of_lt (Nat.lt_succ_of_lt lt)) items).toS) s.heap.objs.size (by rw [size1]; simp only [List.mem_cons, List.not_mem_nil, or_false, not_or]; exact ⟨Nat.ne_of_lt (Nat.lt_succ_self _), Nat.ne_of_gt lt⟩) ks hisz few (fun i v hv => ?_) s.heap hk (gone _ (Nat.le_refl _))
        (fun b hb => gone b (by rw [List.mem_singleton.mp hb, size1]; exact Nat.le_succ _)) (by show A.units + 1 + 1 + 1 + 8 < cLine; omega) (items.size - 0) 0 _ (by omega) (Nat.zero_le _) ⟨⟨_, Heap.get?_push_size _ rfl, rfl, rfl⟩, (hl1.push _)⟩
        (fun b o e => Heap.get?_push_of_some _ (Heap.get?_push_of_some _ e)) ⟨[], #[], 0, _, fresh_set (Heap.get?_push_of_some _ atS), ⟨by simp, by simp, by simp⟩⟩ fun s' L es ep t mv N g k => ?_
      · have e : items.toList[i]? = some v := by rw [Array.getElem?_toList]; exact hv
        rw [hit, List.getElem?_map] at e
        obtain ⟨r, hr, e2⟩ := Option.map_eq_some_iff.mp e
        exact ⟨r, hr, e2.symm⟩
      · obtain ⟨h', g2, d', tk', os'⟩ := s'
        obtain rfl : g2 = s.gens := mv.gens
        obtain rfl : d' = s.drawn := mv.drawn
        obtain rfl : os' = s.os := mv.os
        rw [hisz] at g
        exact wpAny_pure (show wpAny _ _ (ret Value.none) _ _ _ from wpAny_pure ⟨rfl, h', tk', L, es, ep, t, rfl, N, g, k⟩)
    · cases r2 with
      | error e => exact hr2
      | ok fl2 =>
      cases fl2 with
      | ret v =>
        obtain ⟨rfl, h', tk, L, es, ep, t, rfl, N, g, k⟩ := hr2
        repeat (any_goals (first | assumption | wp_step))
        exact h _ _ _ _ _ _ N g k
      | _ => exact hr2.elim
  | _ => exact hr.elim
end
end NS
set_option Elab.async false
set_option linter.all false
set_option maxRecDepth 100000
set_option maxHeartbeats 1000000
namespace L3
open PySem PySem.Spec PyProof.Rows L2
section
variable {X : Cx} {a b o i : Expr} {e : Expr} {es : List Expr} {te ta tb to ti : DE} {t : DA} {pos p apos tpos : Pos}
def flatD : D → Bool
  | .non => true
  | .bl _ => true
  | .int _ => true
  | .str _ => true
  | _ => false
structure CallD2 (X : Cx) (f : Value) (r : R2D) : Prop where
  ex : ∃ rV, CallR X f rV ∧ ∀ R F M H d e x y Qd Q, At X.K R F M H → Rep X.K F d x → Rep X.K F e y → r d e M Qd → KD X.K R F Qd Q → rV [x, y] H Q
theorem pd_bltn2 {x : Str} {f : String} {r : R2D} (hc : CallD2 X (.builtin f) r) (hm : X.mg x = none) (ha : PDE X a ta) (hb : PDE X b tb) (hv : bootBuiltins x = some (.builtin f) := by decide +kernel) (hg : Gl X x := by rfl) (hn : x ≠ "__name__" := by decide) (hdb : (x == ("__debug__" : Str)) = false := by decide)
    (he : starEach [a, b] X.env = (false, eval a X.env) :: starEach [b] X.env := by rfl) (he2 : starEach [b] X.env = (false, eval b X.env) :: starEach [] X.env := by rfl) (hpl : (backTo pos (starEach [b] X.env)).any (·.1) = false := by rfl) : PDE X (.Call (.Name x p) [a, b] [] pos) (dBin r ta tb) := by
  obtain ⟨rV, h1, h2⟩ := hc.ex
  exact pe_imp (pe_callB h1 hg hm hv (pa_cons ha (pa_cons hb pa_nil he2) he) hn hdb he hpl) fun σ H Q ⟨R, F, env, M, Qd, a, e, h, k⟩ =>
    ⟨R, F, env, M, _, a, e, h, fun F1 H1 M1 d v s1 a1 r1 h1 => ⟨R, F1, env, M1, _, a1, e.mono s1, h1, fun F2 H2 M2 d2 v2 s2 a2 r2 q2 => h2 R F2 M2 H2 d d2 v v2 Qd Q a2 (r1.mono s2) r2 q2 (k.mono (s1.trans s2))⟩⟩
abbrev rMaxI : R2D := r2J fun i j => .int (if j > i then j else i)
theorem calld_max (hc : X.calm = true := by rfl) : CallD2 X (.builtin "max") rMaxI := ⟨_, call_max2 hc, fun R F M H d e x y Qd Q a r1 r2 q kd => by
  unfold rMaxI r2J at q
  split at q
  · rename_i i j
    obtain rfl : x = V.int i := r1
    obtain rfl : y = V.int j := r2
    exact ⟨i, j, rfl, kd F H M (.int _) _ (Same.refl _) a rfl q⟩
  · exact q.elim⟩
end
end L3
set_option Elab.async false
set_option linter.all false
set_option maxRecDepth 100000
set_option maxHeartbeats 1000000
namespace L3
open PySem PySem.Spec PyProof.Rows L2 NS
mutual
theorem keyN_inj : ∀ {n : Nat} {d e : D}, D.nk n d = true → D.nk n e = true → keyN d = keyN e → d = e
  | n, .non, e, _, he, h => by cases e <;> first | rfl | (cases n <;> simp [D.nk] at he; done) | (simp [keyN] at h; done)
  | n, .int i, e, _, he, h => by
    cases e <;> first | (cases n <;> simp [D.nk] at he; done) | simp [keyN] at h
    rw [h]
  | n, .str i, e, _, he, h => by
    cases e <;> first | (cases n <;> simp [D.nk] at he; done) | simp [keyN] at h
    rw [h]
  | n + 1, .tup ds, e, hd, he, h => by
    cases e with
    | tup es =>
      simp only [keyN, NestedKey.tup.injEq] at h
      rw [keyNs_inj (show D.nks n ds = true by simpa [D.nk] using hd) (show D.nks n es = true by simpa [D.nk] using he) h]
    | _ => first | (simp [D.nk] at he; done) | simp [keyN] at h
  | 0, .tup _, _, hd, _, _ => by simp [D.nk] at hd
  | n, .bl _, _, hd, _, _ => by cases n <;> simp [D.nk] at hd
  | n, .ty _, _, hd, _, _ => by cases n <;> simp [D.nk] at hd
  | n, .ref _, _, hd, _, _ => by cases n <;> simp [D.nk] at hd
  | n, .lst _, _, hd, _, _ => by cases n <;> simp [D.nk] at hd
  | n, .lsk _, _, hd, _, _ => by cases n <;> simp [D.nk] at hd
  | n, .dct _ _, _, hd, _, _ => by cases n <;> simp [D.nk] at hd
  | n, .obj _ _, _, hd, _, _ => by cases n <;> simp [D.nk] at hd
  | n, .dkd _ _ _, _, hd, _, _ => by cases n <;> simp [D.nk] at hd
  | n, .exc _ _ _ _, _, hd, _, _ => by cases n <;> simp [D.nk] at hd
  | n, .fn _ _ _, _, hd, _, _ => by cases n <;> simp [D.nk] at hd
theorem keyNs_inj : ∀ {n : Nat} {ds es : List D}, D.nks n ds = true → D.nks n es = true → keyNs ds = keyNs es → ds = es
  | _, [], [], _, _, _ => rfl
  | _, [], _ :: _, _, _, h => by simp [keyNs] at h
  | _, _ :: _, [], _, _, h => by simp [keyNs] at h
  | n, d :: ds, e :: es, hd, he, h => by
    simp only [D.nks, Bool.and_eq_true] at hd he
    simp only [keyNs, List.cons.injEq] at h
    rw [keyN_inj hd.1 he.1 h.1, keyNs_inj hd.2 he.2 h.2]
end
section
variable {X : Cx} {pins : List (Addr × Obj)} {σ : L2.St} {H : Hp} {s : Shared} {F : Hp}
mutual
theorem nk_at (I : Inv X pins σ H s) (sm : Same F H) : ∀ {n : Nat} {d : D} {v : V} {u : Value}, Rep X.K F d v → RelV v u → D.nk n d = true → NestedIs s.heap (keyN d) u ∧ Reads s.heap u d.py [] ∧ (keyN d).depth ≤ n ∧ d.py.depth ≤ n + 1
  | n, .non, _, _, r, ru, _ => by cases r; cases ru; exact ⟨.none, .none, Nat.zero_le _, by simp [D.py, PyData.depth]⟩
  | n, .int i, _, _, r, ru, _ => by cases r; obtain ⟨t, rfl⟩ := ru; exact ⟨.int i t, .int i t, Nat.zero_le _, by simp [D.py, PyData.depth]⟩
  | n, .str x, _, _, r, ru, _ => by obtain ⟨r, _⟩ := r; cases r; obtain ⟨t, rfl⟩ := ru; exact ⟨.text x t, .str x t, Nat.zero_le _, by simp [D.py, PyData.depth]⟩
  | n + 1, .tup ds, _, _, ⟨a, xs, e, q, r⟩, ru, h => by
    subst e; cases ru
    obtain ⟨its, rv, ⟨o, ho, hc, m, hd⟩, _⟩ := I.tuple (Same.seqT sm q)
    obtain ⟨h1, h2, h3, h4⟩ := nks_at I sm r rv (show D.nks n ds = true by simpa [D.nk] using h)
    exact ⟨.tup ho hc hd (by simpa using h1), .tuple ho hc hd (by simpa using h2), by simp only [keyN, NestedKey.depth]; omega, by simp only [D.py, PyData.depth]; omega⟩
  | 0, .tup _, _, _, _, _, h => by simp [D.nk] at h
  | n, .bl _, _, _, _, _, h => by cases n <;> simp [D.nk] at h
  | n, .ty _, _, _, _, _, h => by cases n <;> simp [D.nk] at h
  | n, .ref _, _, _, _, _, h => by cases n <;> simp [D.nk] at h
  | n, .lst _, _, _, _, _, h => by cases n <;> simp [D.nk] at h
  | n, .lsk _, _, _, _, _, h => by cases n <;> simp [D.nk] at h
  | n, .dct _ _, _, _, _, _, h => by cases n <;> simp [D.nk] at h
  | n, .obj _ _, _, _, _, _, h => by cases n <;> simp [D.nk] at h
  | n, .dkd _ _ _, _, _, _, _, h => by cases n <;> simp [D.nk] at h
  | n, .exc _ _ _ _, _, _, _, _, h => by cases n <;> simp [D.nk] at h
  | n, .fn _ _ _, _, _, _, _, h => by cases n <;> simp [D.nk] at h
theorem nks_at (I : Inv X pins σ H s) (sm : Same F H) : ∀ {n : Nat} {ds : List D} {vs : List V} {us : List Value}, Reps X.K F ds vs → Vals vs us → D.nks n ds = true → NestedAll s.heap (keyNs ds) us ∧ ReadsAll s.heap us (D.pys ds) [] ∧ NestedKey.depthAll (keyNs ds) ≤ n ∧ PyData.depthAll (D.pys ds) ≤ n + 1
  | n, [], _, _, r, ru, _ => by cases r; cases ru; exact ⟨.nil, .nil, Nat.zero_le _, by simp [D.pys, PyData.depthAll]⟩
  | n, d :: ds, _, _, ⟨x, rr, e, r1, r2⟩, ru, h => by
    subst e
    simp only [D.nks, Bool.and_eq_true] at h
    cases ru with
    | cons u1 u2 =>
      obtain ⟨a1, a2, a3, a4⟩ := nk_at I sm r1 u1 h.1
      obtain ⟨b1, b2, b3, b4⟩ := nks_at I sm r2 u2 h.2
      exact ⟨.cons a1 b1, ReadsAll.cons a2 b2, by simp only [keyNs, NestedKey.depthAll]; omega, by simp only [D.pys, PyData.depthAll]; omega⟩
end
end
/-- the set at a, without the tuples themselves -/
def NSet0 (w : World) (h : Heap) (a : Addr) (L : List (Addr × NestedKey)) : Prop := ∃ (es : Array (Int × Value)) (ep : Nat) (t : SetTable), (∃ o, h.get? a = some o ∧ o.ExactSet ∧ o.data = .set es ep t) ∧ es.toList = rowsN w L ∧ TabG t (hsN w L) ∧ (L.map (·.2)).Nodup ∧ (w.params.followText "set-order" = true ∨ t.led = true) ∧ L.length * 5 < t.mask * 3 ∧ L.length < 4096
abbrev tagN (Ld : List (Addr × D)) : List (Addr × NestedKey) := Ld.map fun r => (r.1, keyN r.2)
def SetNO (w : World) (a : Addr) (Ld : List (Addr × D)) : HO := .ext fun h => NSet0 w h a (tagN Ld)
theorem setNO_new {P : Program} {w : World} {H : Hp} {h : Heap} {a : Addr} {Ld : List (Addr × D)} (S : NSet0 w h a (tagN Ld)) : ObjOk P w H h a (SetNO w a Ld) := by
  have ⟨es, ep, t, ⟨o, ho, r⟩, q⟩ := S
  refine ⟨S, ⟨o, ho⟩, fun h1 h2 p k => ?_⟩
  have ⟨es', ep', t', ⟨o', ho', r'⟩, q'⟩ := (show NSet0 w h1 a (tagN Ld) from p)
  exact ⟨es', ep', t', ⟨o', k o' ho', r'⟩, q'⟩
/-- the addresses of such a list, with what stands there -/
theorem reps_refs {K : PySem.W.Frag} {F : Hp} : ∀ {ds : List D} {vs : List V}, Reps K F ds vs → (∀ d ∈ ds, isKey d = true) → ∃ kd : List (Addr × D), kd.map (·.2) = ds ∧ vs = kd.map (fun r => V.ref r.1) ∧ ∀ r ∈ kd, Rep K F r.2 (.ref r.1)
  | [], _, r, _ => by cases r; exact ⟨[], rfl, rfl, fun r h => nomatch h⟩
  | d :: ds, _, ⟨x, rr, e, r1, r2⟩, h => by
    subst e
    obtain ⟨kd, h1, h2, h3⟩ := reps_refs r2 fun g hg => h g (List.mem_cons_of_mem _ hg)
    have hd := h d List.mem_cons_self
    cases d with
    | tup es =>
      obtain ⟨a, xs, e, q⟩ := r1
      subst e
      exact ⟨(a, .tup es) :: kd, by rw [List.map_cons, h1], by rw [List.map_cons, h2], fun r hr => by
        rcases List.mem_cons.mp hr with e | hr
        · subst e; exact ⟨a, xs, rfl, q⟩
        · exact h3 r hr⟩
    | _ => cases hd
theorem sub_lift {α β : Type} (f : α → β) {k : List α} : ∀ {l : List β}, (∀ x ∈ l, x ∈ k.map f) → ∃ m : List α, l = m.map f ∧ ∀ y ∈ m, y ∈ k
  | [], _ => ⟨[], rfl, fun y h => nomatch h⟩
  | x :: l, h => by
    obtain ⟨m, e, hm⟩ := sub_lift f (l := l) fun y hy => h y (List.mem_cons_of_mem _ hy)
    obtain ⟨y, hy, e2⟩ := List.mem_map.mp (h x List.mem_cons_self)
    exact ⟨y :: m, by rw [List.map_cons, e, e2], fun z hz => by
      rcases List.mem_cons.mp hz with e | hz
      · subst e; exact hy
      · exact hm z hz⟩
theorem perm_lift {α β : Type} (f : α → β) {l l' : List β} (h : l.Perm l') : ∀ k : List α, l' = k.map f → ∃ k' : List α, k'.Perm k ∧ l = k'.map f := by
  induction h with
  | nil => intro k e; cases k with
    | nil => exact ⟨[], .nil, rfl⟩
    | cons _ _ => cases e
  | cons x _ ih => intro k e; cases k with
    | nil => cases e
    | cons y k =>
      rw [List.map_cons, List.cons.injEq] at e
      obtain ⟨k', p, e2⟩ := ih k e.2
      exact ⟨y :: k', .cons _ p, by rw [List.map_cons, e2, e.1]⟩
  | swap x y l => intro k e; match k, e with
    | a :: b :: k, e =>
      simp only [List.map_cons, List.cons.injEq] at e
      exact ⟨b :: a :: k, .swap _ _ _, by simp [e.1, e.2.1, e.2.2]⟩
    | [], e => cases e
    | [_], e => simp at e
  | trans _ _ i1 i2 =>
    intro k e
    obtain ⟨k2, p2, e2⟩ := i2 k e
    obtain ⟨k1, p1, e1⟩ := i1 k2 e2
    exact ⟨k1, p1.trans p2, e1⟩
theorem refs_vals : ∀ {kd : List (Addr × D)} {its : List Value}, Vals (kd.map fun r => V.ref r.1) its → its = kd.map fun r => Value.ref r.1
  | [], _, r => by cases r; rfl
  | x :: kd, _, r => by
    cases r with
    | cons a b => cases a; rw [refs_vals b]; rfl
section
variable {X : Cx}
/-- set(xs) -/
def rSetN (K : PySem.W.Frag) (w : World) : List V → Hp → VK → Prop := fun vs H Q => ∃ l F ds xs, vs = [V.ref l] ∧ SqL K H l xs ∧ Same F H ∧ Reps K F ds xs ∧ (∀ d ∈ ds, isKey d = true) ∧ ds.length < 4096 ∧
  ∀ a Ld, H a = none → (∀ r ∈ Ld, r.2 ∈ ds ∧ Rep K F r.2 (.ref r.1)) → (∀ d ∈ ds, d ∈ Ld.map (·.2)) → (Ld.map (·.2)).Nodup → Ld.length < 4096 → Q (.ref a) (upd H a (SetNO w a Ld))
theorem isKey_nk {d : D} (h : isKey d = true) : D.nk 8 d = true := by
  cases d <;> first | exact h | cases h
theorem cr_setN (hc : X.calm = true) (hu : X.A.units + 65 < cLine) : CallR X (.type "set") (rSetN X.K X.w) := by
  intro pins s σ H vs us Q I r ⟨l, F, ds, xs, ev, hl, sm, rx, hk, few, q⟩
  subst ev
  rw [Vals.ref1 r]
  obtain ⟨its, rv, pl, hz⟩ := I.list hl
  obtain ⟨kd, k1, k2, k3⟩ := reps_refs rx hk
  have hits : its = kd.map fun r => Value.ref r.1 := refs_vals (by rw [← k2]; exact rv)
  have len : kd.length = ds.length := by rw [← k1, List.length_map]
  refine call_set_keys (tagN kd) (I.ok.hd hc) pl.isList (by rw [List.map_map]; exact hits) (fun r hr => ?_) (by rw [List.length_map, len]; exact few) (by omega) fun h' tk L es ep t S g k => ?_
  · obtain ⟨z, hz', rfl⟩ := List.mem_map.mp hr
    have hzd : z.2 ∈ ds := by rw [← k1]; exact List.mem_map.mpr ⟨z, hz', rfl⟩
    obtain ⟨n1, _, n2, _⟩ := nk_at I sm (k3 z hz') (u := .ref z.1) rfl (isKey_nk (hk _ hzd))
    exact ⟨n1, n2⟩
  · rw [List.length_map] at g
    have tk1 : (tagN kd).take kd.length = tagN kd := by rw [← List.length_map (as := kd) (fun r => (r.1, keyN r.2)), List.take_length]
    obtain ⟨Ld, eL, hL⟩ := sub_lift (fun r : Addr × D => (r.1, keyN r.2)) (k := kd) (l := L) fun x hx => by have := g.from_ x hx; rw [tk1] at this; exact this
    subst eL
    have inD : ∀ r ∈ Ld, r.2 ∈ ds := fun r hr => by rw [← k1]; exact List.mem_map.mpr ⟨r, hL r hr, rfl⟩
    have uq := S.uniq
    rw [List.map_map] at uq
    refine ⟨.ref s.heap.objs.size, upd H s.heap.objs.size (SetNO X.w s.heap.objs.size Ld), I.laid (t' := tk) k (Nat.le_refl _) (setNO_new ⟨es, ep, t, S.obj, S.row, S.tb, S.uniq, S.led, S.free, S.few⟩), rfl, q _ Ld (I.hok.fresh (Nat.le_refl _)) (fun r hr => ⟨inD r hr, k3 r (hL r hr)⟩) (fun d hd => ?_) ?_ (by have := S.few; rw [List.length_map] at this; exact this)⟩
    · rw [← k1] at hd
      obtain ⟨z, hz', rfl⟩ := List.mem_map.mp hd
      have := g.all (z.1, keyN z.2) (by rw [tk1]; exact List.mem_map.mpr ⟨z, hz', rfl⟩)
      rw [List.map_map] at this
      obtain ⟨y, hy, e⟩ := List.mem_map.mp this
      have hzd : z.2 ∈ ds := by rw [← k1]; exact List.mem_map.mpr ⟨z, hz', rfl⟩
      have : y.2 = z.2 := keyN_inj (isKey_nk (hk _ (inD y hy))) (isKey_nk (hk _ hzd)) e
      exact List.mem_map.mpr ⟨y, hy, this⟩
    · rw [List.nodup_iff_pairwise_ne, List.pairwise_map] at uq ⊢
      exact uq.imp fun {x y} h e => h (congrArg keyN e)
end
def rSortN (K : PySem.W.Frag) (w : World) : List V → Hp → VK → Prop := fun vs H Q => ∃ a F Ld, vs = [.ref a] ∧ H a = some (SetNO w a Ld) ∧ Same F H ∧ (∀ r ∈ Ld, Rep K F r.2 (.ref r.1) ∧ isKey r.2 = true) ∧ SrtOk (Ld.map (·.2)) ∧
  ∀ (Lf : List (Addr × D)) p, Lf.Perm Ld → (Lf.map (·.2)).Pairwise (fun d e => leD d e = true) → H p = none → Q (.ref p) (upd H p (.lst (Lf.map fun r => V.ref r.1)))
theorem each_refs {α : Type} {f : α → Addr} : ∀ (l : List α), PySem.W.EachIs (fun v r => v = Value.ref (f r)) (l.map fun r => Value.ref (f r)) l
  | [] => .nil
  | _ :: l => .cons rfl (each_refs l)
theorem refs_each {α : Type} {f : α → Addr} : ∀ {l : List α} {vs : List Value}, PySem.W.EachIs (fun v r => v = Value.ref (f r)) vs l → vs = l.map fun r => Value.ref (f r)
  | _, _, .nil => rfl
  | _, _, .cons e t => by rw [List.map_cons, e, refs_each t]
theorem each_of {α : Type} {R : Value → α → Prop} {f : α → Addr} : ∀ (l : List α), (∀ r ∈ l, R (Value.ref (f r)) r) → PySem.W.EachIs R (l.map fun r => Value.ref (f r)) l
  | [], _ => .nil
  | r :: l, h => .cons (h r List.mem_cons_self) (each_of l fun q hq => h q (List.mem_cons_of_mem _ hq))
section
variable {X : Cx}
theorem cr_sortedN (hc : X.calm = true) (hu : X.A.units + 65 < cLine) : CallR X (.builtin "sorted") (rSortN X.K X.w) := by
  intro pins s σ H vs us Q I r ⟨a, F, Ld, ev, ha, sm, hr, ok, q⟩
  subst ev
  rw [Vals.ref1 r]
  obtain ⟨es, ep, t, ⟨o, ho, hex, hd⟩, row, tb, uq, led, free, few⟩ := (show NSet0 X.w s.heap a (tagN Ld) from (I.hok a _ ha).1)
  have size := rows_len row
  rw [List.length_map] at few size free
  have fit : t.fits es.size = true := by
    have z := tb.sz
    rw [List.length_map, List.length_map] at z
    unfold SetTable.fits SetTable.fill
    rw [tb.dm, Bool.and_eq_true, beq_iff_eq, decide_eq_true_eq, size]
    refine ⟨z, ?_⟩
    show t.place.size + 0 ≤ t.mask
    omega
  refine Calls.call_function_entry PyProof.Rows.kind_sorted PyProof.Rows.plain_sorted PyProof.Rows.entry_sorted (PyProof.Rows.args_sorted1 _) (show wpAny _ _ (Builtin.«sorted» _) _ _ _ from ?_)
  unfold Builtin.«sorted»
  refine wpAny_bind (m := checkCount "sorted" 1 1 _) (wpAny_pure (wpAny_bind (collect_set (A := X.A.in1) (I.ok.hd hc) ⟨o, ho, hex.1, hd⟩ fit (by rw [size]; unfold scanBound; omega) tb.ris led fun s1 vs k1 hz g1 o1 pm => ?_)))
  have hes : es.toList.map (·.2) = Ld.map fun r => Value.ref r.1 := by
    rw [row]
    simp only [rowsN, List.map_map]
    rfl
  rw [hes] at pm
  obtain ⟨L1, p1, e1⟩ := perm_lift (fun r : Addr × D => Value.ref r.1) pm Ld rfl
  subst e1
  have len1 : L1.length = Ld.length := p1.length_eq
  have in1 : ∀ r ∈ L1, r ∈ Ld := fun r hr => p1.mem_iff.mp hr
  have reads : ∀ r ∈ Ld, Reads s.heap (.ref r.1) r.2.py [] ∧ r.2.py.depth ≤ 9 := fun z hz' => by
    obtain ⟨_, n2, _, n4⟩ := nk_at I sm (hr z hz').1 (u := .ref z.1) rfl (isKey_nk (hr z hz').2)
    exact ⟨n2, n4⟩
  refine wpAny_bind (wpAny_newList ?_ (by rw [List.length_map, sizeLine_eq]; omega))
  have hoL : (s1.heap.push (seqObj "list" (L1.map fun r => Value.ref r.1).toArray 0)).get? s1.heap.objs.size = some (seqObj "list" (L1.map fun r => Value.ref r.1).toArray 0) := Heap.get?_push_size _ rfl
  refine wpAny_bind (wpAny_holding (PySem.W.list_sort_data (s := { s1 with heap := s1.heap.push (seqObj "list" (L1.map fun r => Value.ref r.1).toArray 0) }) (bs := L1) (enc := fun r => r.2.py) (R := fun v r => v = Value.ref r.1) hoL (each_refs L1)
    (each_of L1 fun r hr1 => ⟨[], PyProof.Rows.Reads.keeps (fun b u e => Heap.get?_push_of_some _ (k1 b u e)) (reads r (in1 r hr1)).1, by simp⟩) ?_ ?_ (by rw [len1, sizeLine_eq]; omega) (fun r hr1 => ?_) fun out lo eo => ?_))
  · intro d hd1 d' hd2
    obtain ⟨r1, m1, rfl⟩ := List.mem_map.mp hd1
    obtain ⟨r2, m2, rfl⟩ := List.mem_map.mp hd2
    exact ok.1 _ (List.mem_map.mpr ⟨r1.2, List.mem_map.mpr ⟨r1, in1 r1 m1, rfl⟩, rfl⟩) _ (List.mem_map.mpr ⟨r2.2, List.mem_map.mpr ⟨r2, in1 r2 m2, rfl⟩, rfl⟩)
  · refine ok.2.imp (fun h d hd1 => ?_) fun h d hd1 => ?_ <;>
    · obtain ⟨r1, m1, rfl⟩ := List.mem_map.mp hd1
      exact h _ (List.mem_map.mpr ⟨r1.2, List.mem_map.mpr ⟨r1, in1 r1 m1, rfl⟩, rfl⟩)
  · have := (reads r (in1 r hr1)).2
    show X.A.units + 1 + 1 + r.2.py.depth < cLine
    omega
  · generalize hLf : L1.mergeSort (PySem.W.dataLe false fun r => r.2.py) = Lf at eo
    have pf : Lf.Perm L1 := by rw [← hLf]; exact List.mergeSort_perm _ _
    have srt : (Lf.map (·.2)).Pairwise fun d e => leD d e = true := by
      rw [← hLf, List.pairwise_map]
      exact PySem.W.sort_pairwise (PySem.W.sortLe_total _ false _) L1
    have eout := refs_each eo
    subst eout
    obtain ⟨ce, hce⟩ := PyProof.Rows.sortedHeap_at (vs := L1.map fun r => Value.ref r.1) (out := (Lf.map fun r => Value.ref r.1).toArray) hoL
    have lenf : Lf.length = Ld.length := (pf.trans p1).length_eq
    have hn : H s1.heap.objs.size = none := I.hok.fresh hz
    refine wpAny_pure ⟨_, rfl, .ref s1.heap.objs.size, upd H s1.heap.objs.size (.lst (Lf.map fun r => V.ref r.1)), ?_, rfl, q Lf _ (pf.trans p1) srt hn⟩
    have hlen : (Lf.map fun r => V.ref r.1).length ≤ sizeLine := by rw [List.length_map, lenf, sizeLine_eq]; omega
    have hv : ∀ l : List (Addr × D), Vals (l.map fun r => V.ref r.1) (l.map fun r => Value.ref r.1) := fun l => by
      induction l with
      | nil => exact .nil
      | cons r l ih => exact .cons rfl ih
    generalize hhp : sortedHeap _ s1.heap.objs.size _ _ = hp at hce ⊢
    have K1 : ∀ b u, s.heap.get? b = some u → hp.get? b = some u := fun b u e => by
      have e1 := k1 b u e
      have lt := Heap.lt_size e1
      rw [← hhp, PyProof.Rows.sortedHeap_old (Nat.ne_of_lt lt) (by rw [PyProof.Rows.size_push']; exact Nat.lt_succ_of_lt lt)]
      exact Heap.get?_push_of_some _ e1
    have J : Inv X pins σ (upd H s1.heap.objs.size (.lst (Lf.map fun r => V.ref r.1))) { s with heap := hp, gens := s1.gens, drawn := s1.drawn, toks := s1.toks } :=
      I.call (ch := []) (Un.laid K1 hz hn) (I.hok.laid K1 hz ⟨hlen, _, ce, hv Lf, by simpa using hce⟩) (by rw [g1]; exact I.bare) fun _ z => nomatch z
    rw [← o1] at J
    exact J
/-- sorted(set(xs)) -/
def rSortSet : R1D := fun d M Q => match resD M d with
  | .lst ds => ((∀ g ∈ ds, isKey g = true) ∧ ds.length < 4096 ∧ SrtOk ds) ∧ ∀ ys : List D, ys.Nodup → (∀ g, g ∈ ys ↔ g ∈ ds) → ys.Pairwise (fun d e => leD d e = true) → Q (.lst ys) M
  | _ => False
theorem reps_of {K : PySem.W.Frag} {F : Hp} : ∀ {Lf : List (Addr × D)}, (∀ r ∈ Lf, Rep K F r.2 (.ref r.1)) → Reps K F (Lf.map (·.2)) (Lf.map fun r => V.ref r.1)
  | [], _ => rfl
  | r :: Lf, h => ⟨.ref r.1, _, rfl, h r List.mem_cons_self, reps_of fun q hq => h q (List.mem_cons_of_mem _ hq)⟩
variable {e : Expr} {te : DE} {pos p p2 pos2 : Pos}
theorem pd_sortset {k : Nat} (hr : Room k X.A) (hm1 : X.mg "sorted" = none) (hm2 : X.mg "set" = none) (he : PDE X e te) (hc : X.calm = true := by rfl) (hg1 : Gl X "sorted" := by rfl) (hg2 : Gl X "set" := by rfl)
    (ha : starEach [e] X.env = (false, eval e X.env) :: starEach [] X.env := by rfl) (hpl : (backTo pos2 (starEach [] X.env)).any (·.1) = false := by rfl)
    (ha2 : starEach [.Call (.Name "set" p2) [e] [] pos2] X.env = (false, eval (.Call (.Name "set" p2) [e] [] pos2) X.env) :: starEach [] X.env := by rfl) (hpl2 : (backTo pos (starEach [] X.env)).any (·.1) = false := by rfl) :
    PDE X (.Call (.Name "sorted" p) [.Call (.Name "set" p2) [e] [] pos2] [] pos) (dUn rSortSet te) := by
  have hu : X.A.units + 65 < cLine := by have := hr.un; omega
  refine pe_imp (pe_callB (cr_sortedN hc hu) hg1 hm1 (by decide +kernel) (pa_cons (pe_callTy (cr_setN hc hu) hg2 hm2 (by decide +kernel) (pa_cons he pa_nil ha) (by decide) (by decide) ha hpl) pa_nil ha2) (by decide) (by decide) ha2 hpl2) fun σ H Q ⟨R, F, env, M, Qd, a, e, h, k⟩ => ⟨R, F, env, M, _, a, e, h, fun F1 H1 M1 d v s1 a1 r1 q1 => ?_⟩
  unfold rSortSet at q1
  split at q1
  · rename_i ds hd
    obtain ⟨P, xs, rfl, hq, rx⟩ := (seq_at a1 r1).1 hd
    refine ⟨P, F1, ds, xs, rfl, SqL.of hq, a1.fz, rx, q1.1.1, q1.1.2.1, fun A Ld hA hL hall hnd hfew => ?_⟩
    obtain ⟨a2, s2⟩ := a1.laid hA (SetNO X.w A Ld)
    have mem : ∀ g, g ∈ Ld.map (·.2) ↔ g ∈ ds := fun g => ⟨fun h => by
      obtain ⟨r, hr, rfl⟩ := List.mem_map.mp h
      exact (hL r hr).1, hall g⟩
    refine ⟨A, _, Ld, rfl, upd_same, a2.fz, fun r hr => ⟨(hL r hr).2.mono s2, q1.1.1 _ (hL r hr).1⟩, ⟨fun x hx y hy => ?_, ?_⟩, fun Lf p pf srt hp => ?_⟩
    · obtain ⟨x', hx', rfl⟩ := List.mem_map.mp hx
      obtain ⟨y', hy', rfl⟩ := List.mem_map.mp hy
      exact q1.1.2.2.1 _ (List.mem_map.mpr ⟨x', (mem x').mp hx', rfl⟩) _ (List.mem_map.mpr ⟨y', (mem y').mp hy', rfl⟩)
    · refine q1.1.2.2.2.imp (fun h x hx => ?_) fun h x hx => ?_ <;>
      · obtain ⟨x', hx', rfl⟩ := List.mem_map.mp hx
        exact h _ (List.mem_map.mpr ⟨x', (mem x').mp hx', rfl⟩)
    · have pm := pf.map (·.2)
      refine lst_new a2 (reps_of fun r hr => (hL r (pf.mem_iff.mp hr)).2.mono s2) (k.mono (s1.trans s2)) (q1.2 _ (pm.nodup_iff.mpr hnd) (fun g => (pm.mem_iff).trans (mem g)) srt) hp
  · exact q1.elim
end
end L3
set_option Elab.async false
set_option linter.all false
set_option maxRecDepth 100000
set_option maxHeartbeats 1000000
namespace L3
open PySem PySem.Spec PyProof.Rows L2
section
variable {X : Cx} {e : Expr} {te : DE}
def rLtTV (K : PySem.W.Frag) : R2 := fun x y H Q => ∃ d e : PyData, Dp K H x d ∧ Dp K H y e ∧ PySem.W.alike d e = true ∧ d ≠ .none ∧ min d.depth e.depth ≤ 60 ∧ Q (.bl (PySem.W.dataLt d e)) H
theorem op_ltTV (hu : X.A.units + 65 < cLine) : OpR X (compareOp .Lt) (rLtTV X.K) := by
  intro pins s σ H x y v u Q I rx ry ⟨d, e, h1, h2, h3, h4, h5, q⟩
  obtain ⟨as, r1⟩ := Dp.reads I d x v h1 rx
  obtain ⟨bs, r2⟩ := Dp.reads I e y u h2 ry
  exact PySem.W.lt_data r1 r2 h3 h4 (by omega) ⟨.bl (PySem.W.dataLt d e), H, I, rfl, q⟩
/-- d < e, alike -/
def rLtD : R2D := fun d e M Q => (D.le 50 d = true ∧ D.le 50 e = true ∧ PySem.W.alike d.py e.py = true ∧ d.py ≠ .none) ∧ Q (.bl (PySem.W.dataLt d.py e.py)) M
theorem opd_ltD {k : Nat} (hr : Room k X.A) : OpD X (compareOp .Lt) rLtD := ⟨_, op_ltTV (by have := hr.un; omega), fun R F M H d e x y Qd Q a r1 r2 ⟨⟨l1, l2, h3, h4⟩, q⟩ kd => by
  have h5 := py_depth l1
  exact ⟨d.py, e.py, dp_mono a.fz (py_dp r1 l1).1, dp_mono a.fz (py_dp r2 l2).1, h3, h4, by omega, kd F H M (.bl _) _ (Same.refl _) a rfl q⟩⟩
end
end L3
set_option Elab.async false
set_option linter.all false
set_option maxRecDepth 100000
set_option maxHeartbeats 1000000
namespace L3
open PySem PySem.Spec PyProof.Rows L2
theorem sok_of {s : String} (h : (Str.ofString s).length ≤ sizeLine) : SOk (Str.ofString s) := by
  refine ⟨h, fun c hc => ?_⟩
  rw [PySem.Str.ofString_eq_toList] at hc
  obtain ⟨x, _, rfl⟩ := List.mem_map.mp (show c ∈ s.toList.map Char.toNat by simpa using hc)
  have := x.valid
  show x.val.toNat < 0x110000
  rcases this with h | ⟨_, h⟩
  · have : x.val.toNat < 0xD800 := h
    omega
  · exact h
theorem sok_int {i : Int} (h : i.natAbs.log2 < 1920) : SOk (Str.ofString (toString i)) := sok_of (PySem.int_text_fits h)
section
variable {X : Cx} {e : Expr} {te to : DE} {pos p apos : Pos}
/-- str(x) -/
def rStrD : R1D := fun d M Q => match d with
  | .int i => i.natAbs.log2 < 1920 ∧ Q (.str (Str.ofString (toString i))) M
  | .str x => Q (.str x) M
  | _ => False
theorem calld_str : CallD X (.type "str") rStrD := ⟨_, call_str_int.or SkE.call_str_str, fun R F M H d x Qd Q a r q kd => by
  cases d with
  | int i => cases (show x = V.int i from r); exact .inl ⟨i, rfl, q.1, kd F H M (.str _) _ (Same.refl _) a ⟨rfl, sok_int q.1⟩ q.2⟩
  | str y => obtain ⟨e, hy⟩ := r; subst e; exact .inr ⟨y, rfl, kd F H M (.str y) _ (Same.refl _) a ⟨rfl, hy⟩ q⟩
  | _ => exact q.elim⟩
/-- int(text) -/
def rIntD : R1D := fun d M Q => match d with
  | .str x => match PySem.intText? x with
    | some n => x.length ≤ 640 ∧ Q (.int n) M
    | none => False
  | _ => False
theorem calld_int : CallD X (.type "int") rIntD := ⟨_, call_int_str, fun R F M H d x Qd Q a r q kd => by
  cases d with
  | str y =>
    obtain ⟨e, hy⟩ := r
    subst e
    change (match PySem.intText? y with | some n => _ | none => False) at q
    split at q
    · rename_i n hn
      exact ⟨y, n, rfl, hn, q.1, kd F H M (.int n) _ (Same.refl _) a rfl q.2⟩
    · exact q.elim
  | _ => exact q.elim⟩
def dSplit (to te : DE) : DE := fun env M Q => to env M fun o M1 => match o with
  | .str a => te env M1 fun d M2 => match d with
    | .str b => (b.length == 0) = false ∧ a.length + 2 ≤ sizeLine ∧ (∀ y ∈ Txt.split a b, SOk y) ∧ Q (.lst ((Txt.split a b).map D.str)) M2
    | _ => False
  | _ => False
theorem reps_strs {K : PySem.W.Frag} {F : Hp} : ∀ {ys : List Str}, (∀ y ∈ ys, SOk y) → Reps K F (ys.map D.str) (ys.map V.str)
  | [], _ => rfl
  | y :: ys, h => ⟨.str y, _, rfl, ⟨rfl, h y (List.mem_cons_self ..)⟩, reps_strs fun z hz => h z (List.mem_cons_of_mem _ hz)⟩
theorem pd_split {o : Expr} (ho : PDE X o to) (he : PDE X e te) (hs : starEach [e] X.env = [(false, eval e X.env)] := by rfl) (hbase : attributeBase o "split" X.env (eval o X.env) = eval o X.env := by rfl) (hline : (apos.endLine == pos.line) = true := by rfl) :
    PDE X (.Call (.Attribute o "split" apos) [e] [] pos) (dSplit to te) := by
  refine pe_imp (pe_split ho he hs hbase hline) fun σ H Q ⟨R, F, env, M, Qd, a, e, h, k⟩ => ⟨R, F, env, M, _, a, e, h, fun F1 H1 M1 d v s1 a1 r1 q1 => ?_⟩
  cases d with
  | str x =>
    obtain ⟨rfl, hx⟩ := r1
    refine ⟨⟨x, rfl⟩, R, F1, env, M1, _, a1, e.mono s1, q1, fun F2 H2 M2 d2 v2 s2 a2 r2 q2 => ?_⟩
    cases d2 with
    | str y =>
      obtain ⟨rfl, hy⟩ := r2
      exact ⟨x, y, rfl, rfl, q2.1, q2.2.1, fun p hp => lst_new a2 (reps_strs q2.2.2.1) (k.mono (s1.trans s2)) q2.2.2.2 hp⟩
    | _ => exact q2.elim
  | _ => exact q1.elim
theorem tgs_serves {K : PySem.W.Frag} {R F : Hp} {M : Mp} {H : Hp} (a : At K R F M H) : ∀ (ts : List Tg) (σ : L2.St) (env : DEnv) (ds : List D) (vs : List V) (Qd : DEnv → Prop) (Q : L2.St → Hp → Prop), EnvR K F σ env → Reps K F ds vs → Tg.binds ts ds env Qd →
    (∀ σ' env', EnvR K F σ' env' → Qd env' → Q σ' H) → tgsOf K ts vs σ H Q
  | [], σ, env, ds, vs, Qd, Q, e, r, h, k => by
    cases ds with
    | nil => exact ⟨r, k σ env e h⟩
    | cons d ds => exact h.elim
  | t :: ts, σ, env, ds, vs, Qd, Q, e, r, h, k => by
    cases ds with
    | nil => exact h.elim
    | cons d ds =>
      obtain ⟨x, xr, rfl, r1, r2⟩ := r
      exact ⟨x, xr, rfl, tg_serves a t σ env d x _ _ e r1 h fun σ1 env1 e1 _ q1 => tgs_serves a ts σ1 env1 ds xr Qd Q e1 r2 q1 k⟩
def dAsgL (te : DE) (ts : List Tg) : DS := fun D env M => te env M fun d M1 => match resD M1 d with
  | .lst ds => Tg.binds ts ds env fun env1 => D.nx env1 M1
  | _ => False
theorem pds_asgL {es : List Expr} {k : Nat} {tpos : Pos} {ts : List Tg} (he : PDE X e te) (h : PDGs X es ts) (hc : X.calm = true := by rfl)
    (hn : (assignEach es X.env).length = ts.length := by rfl) (hst : (assignEach es X.env).findIdx? (·.1) = none := by rfl) (hs : swapsWithSole [.Tuple es k tpos] e pos.line X.env = pure false := by rfl) (hw : swappedStores [.Tuple es k tpos] e X.env = pure none := by rfl)
    (h1 : (assignEach [.Tuple es k tpos] X.env).map (·.2) = [assign (.Tuple es k tpos) X.env] := by rfl) : PDS X (.Assign [.Tuple es k tpos] e pos) (dAsgL te ts) := by
  exact ps_imp (ps_asg he (pg_lst hc h hn hst) hs hw h1) fun D σ H ⟨R, F, env, M, Dd, a, e, h, k⟩ => ⟨R, F, env, M, _, a, e, h, fun F1 H1 M1 d v s1 a1 r1 q1 => by
    split at q1
    · rename_i ds hd
      obtain ⟨P, xs, rfl, hq, rx⟩ := (seq_at a1 r1).1 hd
      have e1 := Tg.binds_len ts ds env _ q1
      have e2 := rx.length
      exact ⟨P, xs, rfl, SqL.of hq, by omega, tgs_serves a1 ts σ env ds xs _ _ (e.mono s1) rx q1 fun σ' env' e' q' => k.nx F1 H1 M1 env' σ' s1 a1 e' q'⟩
    · exact q1.elim⟩
end
end L3
set_option Elab.async false
set_option linter.all false
set_option maxRecDepth 100000
set_option maxHeartbeats 1000000
namespace L3
open PySem PySem.Spec PyProof.Rows L2
section
variable {X : Cx} {a b o : Expr} {e : Expr} {es : List Expr} {te ta tb to : DE} {t : DA} {pos p apos tpos : Pos}
/-- .. and keeps a promise -/
structure MethOk (P : Program) (w : World) (K : PySem.W.Frag) (mg : Str → Option Value) (base : Heap) (k : Nat) (c : Cl) (m : Str) (n : Nat) (sp : SpD) : Prop where
  ex : ∃ f fd ps, FnOk P w K mg base (L2N.CX P w) k f fd ps (upSp K n sp) ∧ ps.length = n ∧ Meth K (He.ga K c.nm) m f ∧ Binds K fd ps []
theorem MethOk.mono {P : Program} {w : World} {K : PySem.W.Frag} {mg : Str → Option Value} {base : Heap} {j k : Nat} {c : Cl} {x : Str} {n : Nat} {sp : SpD} (d : MethOk P w K mg base j c x n sp) (h : j ≤ k) : MethOk P w K mg base k c x n sp := by
  obtain ⟨f, fd, ps, a, b⟩ := d.ex
  exact ⟨f, fd, ps, a.mono h, b⟩
/-- the class c is made by an __init__ that keeps a promise; n values are written, dfl the defaults behind them -/
structure MkOk (P : Program) (w : World) (K : PySem.W.Frag) (mg : Str → Option Value) (base : Heap) (k : Nat) (c : Cl) (n : Nat) (dfl : List D) (sp : SpD) : Prop where
  ex : ∃ f fd ps ds dvs, FnOk P w K mg base (L2N.CX P w) k f fd ps (upSp K (n + 1 + dfl.length) sp) ∧ Mk K (He.ga K c.nm) f ∧ mg c.nm = some (.ref (He.ga K c.nm)) ∧ Binds K fd ps ds ∧ Vals dvs ds ∧ ∀ F, Reps K F dfl dvs
theorem MkOk.mono {P : Program} {w : World} {K : PySem.W.Frag} {mg : Str → Option Value} {base : Heap} {j k : Nat} {c : Cl} {n : Nat} {dfl : List D} {sp : SpD} (d : MkOk P w K mg base j c n dfl sp) (h : j ≤ k) : MkOk P w K mg base k c n dfl sp := by
  obtain ⟨f, fd, ps, ds, dvs, a, b⟩ := d.ex
  exact ⟨f, fd, ps, ds, dvs, a.mono h, b⟩
end
end L3
set_option Elab.async false
set_option linter.all false
set_option maxRecDepth 100000
set_option maxHeartbeats 1000000
namespace L3
open PySem PySem.Spec PyProof.Rows L2
section
variable {X : Cx} {e : Expr} {t : DA} {pos p : Pos}
/-- enumerate of a list or a tuple -/
def seqOf : D → Option (List D)
  | .lst xs => some xs
  | .tup xs => some xs
  | _ => none
end
end L3
set_option Elab.async false
set_option linter.all false
set_option maxRecDepth 100000
set_option maxHeartbeats 4000000
set_option Elab.async false
set_option linter.all false
set_option maxRecDepth 100000
set_option maxHeartbeats 1000000
namespace L3
open PySem PySem.Spec PyProof.Rows L2
structure InitOk (P : Program) (w : World) (K : PySem.W.Frag) (mg : Str → Option Value) (base : Heap) (k : Nat) (c : Cl) (qual : Str) (st : Stmt) (ps : List Str) (dfl : List D) (sp : SpD) : Prop where
  ex : ∃ f fd dvs, FnOk P w K mg base (L2N.CX P w) k f fd ps (upSp K ps.length sp) ∧ FunD K "__init__" qual (defArgs st) (defBody st) (defScope st) dvs [] f fd ∧ Mk K (He.ga K c.nm) f ∧ mg c.nm = some (.ref (He.ga K c.nm)) ∧ ∀ F, Reps K F dfl dvs
theorem nodflt {K : PySem.W.Frag} {dvs : List V} {ds : List D} {F : Hp} (r : Reps K F ds dvs) (h : ds ≠ []) : dvs ≠ [] := by
  intro e
  subst e
  exact h (List.eq_nil_of_length_eq_zero r.length)
/-- made with n values written, the defaults from the j-th on behind them -/
theorem InitOk.make {P : Program} {w : World} {K : PySem.W.Frag} {mg : Str → Option Value} {base : Heap} {k : Nat} {c : Cl} {qual : Str} {st : Stmt} {ps : List Str} {dfl : List D} {sp : SpD} (o : InitOk P w K mg base k c qual st ps dfl sp) (n j : Nat) (hne : dfl ≠ []) (hn : n + 1 + (dfl.length - j) = ps.length)
    (h : ∀ (T : Addr) (kV doc pm : Value) (an : Option Addr) (cdv ct : Value) (us its : List Value), us.length = n + 1 → its.length = dfl.length →
      ∃ k, bindArgs (PySem.W.fnOf "__init__" qual (defArgs st) (defBody st) (defScope st) (.ref T) kV doc pm an cdv ct) ⟨us, []⟩ = seqItems? (.ref T) >>= k ∧ k (some its.toArray) = pure (ps.zip (us ++ its.drop j))) : MkOk P w K mg base k c n (dfl.drop j) sp := by
  obtain ⟨f, fd, dvs, G, F, hm, hg, hd⟩ := o.ex
  have hl := (hd (fun _ => none)).length
  obtain ⟨ds, h1, h2⟩ := F.binds1 (ps := ps) (n + 1) j (nodflt (hd fun _ => none) hne) (by omega) fun T kV doc pm an cdv ct us its hu hi => h T kV doc pm an cdv ct us its hu (by omega)
  refine ⟨f, fd, ps, ds, dvs.drop j, ?_, hm, hg, h2, h1, fun F => (hd F).drop j⟩
  have e : n + 1 + (dfl.drop j).length = ps.length := by rw [List.length_drop]; omega
  rw [e]
  exact G
abbrev AlX : Type := Bool × He.AlD
def obsX (fb : List (PySem.W.Frag → Bool)) (fa : List He.Fa) (fn : List He.DefD) (K : PySem.W.Frag) : AlX := (fb.all fun b => b K, He.obsD fa fn K)
def valX (fn : List He.DefD) : AlX := (true, He.valD fn)
def SaysX (fb : List (PySem.W.Frag → Bool)) (fa : List He.Fa) (fn : List He.DefD) (K : PySem.W.Frag) : Prop := obsX fb fa fn K = valX fn
section
variable {fb : List (PySem.W.Frag → Bool)} {fa : List He.Fa} {fn : List He.DefD} {K : PySem.W.Frag}
theorem SaysX.d (c : SaysX fb fa fn K) : He.SaysD fa fn K := congrArg (fun z : AlX => z.2) c
theorem SaysX.b (c : SaysX fb fa fn K) (i : Nat) {f : PySem.W.Frag → Bool} (h : fb[i]? = some f := by rfl) : f K = true :=
  List.all_eq_true.mp (show (fb.all fun b => b K) = true from congrArg (fun z : AlX => z.1) c) f (List.mem_of_getElem? h)
end
end L3
set_option Elab.async false
set_option linter.all false
set_option maxRecDepth 100000
set_option maxHeartbeats 1000000
namespace L3
open PySem PySem.Spec PyProof.Rows L2
section
variable {X : Cx}
abbrev rDivW : R2D := r2I CDivW fun i j => .int (i / j)
theorem opd_fdivW : OpD X (binaryOp .FloorDiv) rDivW := opd_int op_fdivW fun _ _ _ _ => rfl
end
theorem div_wide {j : Int} (i : Int) (h : 0 < j) (h2 : j < 2 ^ 60) : CDivW i j := wide_div (b := 60) h (by omega) (by decide) (by decide)
end L3
set_option Elab.async false
set_option linter.all false
set_option maxRecDepth 100000
set_option maxHeartbeats 1000000
namespace L3
open PySem PySem.Spec PyProof.Rows L2
local macro_rules | `(tactic| walk_at "w") => `(tactic| conv => whnf)
set_option hygiene false in
local macro_rules | `(tactic| walk_at "m") => `(tactic| (conv => whnf; rw [resD_ref hM]; conv => whnf))
set_option hygiene false in
local macro_rules | `(tactic| walk_at "n") => `(tactic| (conv => whnf; rw [resD_new]; conv => whnf))
theorem resD_ref {M : Mp} {p : Addr} {ds : List D} (h : M p = some (.lst ds)) : resD M (.ref p) = .lst ds := by
  simp only [resD, h]
theorem resD_new {M : Mp} {p : Addr} {ds : List D} : resD (mupd M p (.lst ds)) (.ref p) = .lst ds := resD_ref mupd_same
def letters : Str := "abcdefghijklmnopqrstuvwxyz"
theorem letters_list : letters.cps.toList = (List.range 26).map (· + 97) := by decide +kernel
def isLetter (c : Nat) : Bool := decide (97 ≤ c) && decide (c ≤ 122)
theorem mem_letters (c : Nat) : c ∈ letters.cps.toList ↔ isLetter c = true := by
  rw [letters_list, List.mem_map]
  unfold isLetter
  rw [Bool.and_eq_true, decide_eq_true_eq, decide_eq_true_eq]
  constructor
  · rintro ⟨a, h, rfl⟩
    have := List.mem_range.mp h
    omega
  · rintro ⟨h1, h2⟩
    exact ⟨c - 97, List.mem_range.mpr (by omega), by omega⟩
theorem strIn_letters (c : Nat) : strIn ⟨#[c]⟩ letters = isLetter c := by
  unfold strIn
  rw [PySem.StrLaws.found_one]
  rw [Bool.eq_iff_iff, decide_eq_true_eq]
  exact mem_letters c
def isName (x : Str) : Bool := decide (0 < x.length) && (decide (x.length ≤ 6) && x.cps.toList.all isLetter)
theorem lc_go {t : Tg} {tt : DT} {te : DE} {env : DEnv} {Q : List D → Mp → Prop} {xs : List D} (Pv : Nat → List D → Mp → Prop)
    (hs : ∀ i x acc M (K : List D → Mp → Prop), xs[i]? = some x → Pv i acc M → (∀ acc' M', Pv (i + 1) acc' M' → K acc' M') → t.bind x env fun env1 => tt env1 M fun b M1 => brn b (te env1 M1 fun y M2 => K (acc ++ [y]) M2) (K acc M1))
    (hd : ∀ acc M, Pv xs.length acc M → Q acc M) : ∀ (r : List D) (k : Nat) (acc : List D) (M : Mp), xs.drop k = r → k ≤ xs.length → Pv k acc M → dLcL0 t tt te env r acc M Q
  | [], k, acc, M, e, hk, p => by
    have : k = xs.length := by have := List.drop_eq_nil_iff.mp e; omega
    subst this
    exact hd acc M p
  | x :: r, k, acc, M, e, hk, p => by
    have hx : xs[k]? = some x := by rw [← List.head?_drop, e]; rfl
    have hr : xs.drop (k + 1) = r := by rw [← List.drop_drop, e]; rfl
    have hlt : k < xs.length := (List.getElem?_eq_some_iff.mp hx).1
    exact hs k x acc M _ hx p fun acc' M' p' => lc_go Pv hs hd r (k + 1) acc' M' hr hlt p'
theorem lc_inv {t : Tg} {tt : DT} {te : DE} {env : DEnv} {M : Mp} {Q : List D → Mp → Prop} {xs : List D} (Pv : Nat → List D → Mp → Prop) (h0 : Pv 0 [] M)
    (hs : ∀ i x acc M (K : List D → Mp → Prop), xs[i]? = some x → Pv i acc M → (∀ acc' M', Pv (i + 1) acc' M' → K acc' M') → t.bind x env fun env1 => tt env1 M fun b M1 => brn b (te env1 M1 fun y M2 => K (acc ++ [y]) M2) (K acc M1))
    (hd : ∀ acc M, Pv xs.length acc M → Q acc M) : dLcL t tt te env xs [] M Q := by
  rw [dLcL_eq]; exact lc_go Pv hs hd xs 0 [] M rfl (Nat.zero_le _) h0
/-- each element is one value, nothing changes -/
theorem lc_map {t : Tg} {tt : DT} {te : DE} {env : DEnv} {M : Mp} {Q : List D → Mp → Prop} {xs : List D} (f : D → D)
    (h : ∀ x ∈ xs, ∀ (K1 : DK) (K2 : Mp → Prop), K1 (f x) M → t.bind x env fun env1 => tt env1 M fun b M1 => brn b (te env1 M1 K1) (K2 M1)) (q : Q (xs.map f) M) : dLcL t tt te env xs [] M Q := by
  refine lc_inv (fun i acc M' => M' = M ∧ acc = (xs.take i).map f) ⟨rfl, by simp⟩ (fun i x acc M' K hx ⟨e1, e2⟩ hK => ?_) fun acc M' ⟨e1, e2⟩ => ?_
  · subst e1
    refine h x (List.mem_of_getElem? hx) _ _ (hK _ _ ⟨rfl, ?_⟩)
    rw [e2, List.take_add_one, hx]; simp
  · rw [e1, e2, List.take_length]; exact q
theorem for_go {t : Tg} {tb : DS} {E : DEnds} {xs : List D} (Pv : Nat → DEnv → Mp → Prop)
    (hs : ∀ i x env M (K : DEnv → Mp → Prop), xs[i]? = some x → Pv i env M → (∀ env' M', Pv (i + 1) env' M' → K env' M') → t.bind x env fun env1 => tb { E with nx := K, ct := K, bk := E.nx } env1 M)
    (hd : ∀ env M, Pv xs.length env M → E.nx env M) : ∀ (r : List D) (k : Nat) (env : DEnv) (M : Mp), xs.drop k = r → k ≤ xs.length → Pv k env M → dForL0 t tb r E env M
  | [], k, env, M, e, hk, p => by
    have : k = xs.length := by have := List.drop_eq_nil_iff.mp e; omega
    subst this
    exact hd env M p
  | x :: r, k, env, M, e, hk, p => by
    have hx : xs[k]? = some x := by rw [← List.head?_drop, e]; rfl
    have hr : xs.drop (k + 1) = r := by rw [← List.drop_drop, e]; rfl
    have hlt : k < xs.length := (List.getElem?_eq_some_iff.mp hx).1
    exact hs k x env M _ hx p fun env' M' p' => for_go Pv hs hd r (k + 1) env' M' hr hlt p'
theorem for_inv {t : Tg} {tb : DS} {E : DEnds} {xs : List D} {env : DEnv} {M : Mp} (Pv : Nat → DEnv → Mp → Prop) (h0 : Pv 0 env M)
    (hs : ∀ i x env M (K : DEnv → Mp → Prop), xs[i]? = some x → Pv i env M → (∀ env' M', Pv (i + 1) env' M' → K env' M') → t.bind x env fun env1 => tb { E with nx := K, ct := K, bk := E.nx } env1 M)
    (hd : ∀ env M, Pv xs.length env M → E.nx env M) : dForL t tb xs E env M := by
  rw [dForL_eq]; exact for_go Pv hs hd xs 0 env M rfl (Nat.zero_le _) h0
theorem rng_at {lo : Int} {n i : Nat} {x : D} (h : (rng lo n)[i]? = some x) : i < n ∧ x = .int (lo + i) := by
  have hlt : i < n := by have := (List.getElem?_eq_some_iff.mp h).1; rwa [rng_length] at this
  unfold rng at h
  rw [List.getElem?_map, List.getElem?_range hlt] at h
  cases h
  exact ⟨hlt, rfl⟩
structure Bag where
  cells : List Int
  at_ : Int
  left : Int
  seed : Int
def Bag.l (b : Bag) : List D := [.lst (b.cells.map D.int), .int b.at_, .int b.left, .int b.seed]
structure Bag.Ok (b : Bag) : Prop where
  at0 : 0 ≤ b.at_
  at1 : b.at_ ≤ b.cells.length
  left0 : 0 ≤ b.left
  seed0 : 0 ≤ b.seed
  seed1 : b.seed < 2147483563
def sp_law_bag : SpD := fun ds M Q _ => ∃ ns : List Int, ds = [.lsk (ns.map D.int)] ∧ ∀ p b, M p = none → Bag.Ok b → Q (.ref p) (mupd M p (.lst b.l))
def t_law_bag_1 : DS := (dRet (dLstM (dCons (dUn rListD (dSl (dVar 0) dNoPart (dPart (dC (.int 63))))) (dCons (dC (.int 0)) (dCons (dC (.int 0)) (dCons (dVar 1) dNil))))))
def t_law_bag : DS := (dSeq (dSet 1 (dC (.int 9450)))
    (dSeq (dFor (iLst (dSl (dVar 0) dNoPart (dPart (dC (.int 63))))) (.name 2) (dSet 1 (dBin rModI (dBin rAddD (dBin rAddD (dBin rMulI (dVar 1) (dC (.int 40014))) (dBin rModI (dVar 2) (dC (.int 2147483563)))) (dC (.int 13))) (dC (.int 2147483563)))))
    t_law_bag_1))
theorem cut_map {α β : Type} (f : α → β) (xs : List α) (lo hi : Option Int) : cut (xs.map f) lo hi = (cut xs lo hi).map f := by
  unfold cut; simp [List.map_drop, List.map_take]
theorem r_law_bag (ds : List D) (M : Mp) (Q : DK) (E : DX) (hl : ds.length = 1) (h : sp_law_bag ds M Q E) : t_law_bag { nx := fun _ M' => Q .non M', rt := Q } (startD ["_law_script", "_law_salt", "_law_cell"] ds) M := by
  obtain ⟨ns, rfl, q⟩ := h
  walk_at "w"
  rw [cut_map]
  refine for_inv (fun i env M' => M' = M ∧ ∃ (salt : Int) (c : Option D), env = [some (.lsk (ns.map D.int)), some (.int salt), c] ∧ 0 ≤ salt ∧ salt < 2147483563) ⟨rfl, 9450, none, rfl, by omega, by omega⟩ (fun i x env M' K hx ⟨e, salt, c, he, h0, h1⟩ hK => ?_) fun env M' ⟨e, salt, c, he, h0, h1⟩ => ?_
  · subst e he
    have hm := List.mem_of_getElem? hx
    obtain ⟨z, _, rfl⟩ := List.mem_map.mp hm
    walk_at "w"
    refine ⟨.inl (by omega), by omega, by omega, hK _ _ ⟨rfl, _, _, rfl, by omega, by omega⟩⟩
  · subst e he
    walk_at "w"
    intro p hp
    rw [cut_map]
    exact q p ⟨cut ns none (some 63), 0, 0, salt⟩ hp ⟨by show (0 : Int) ≤ 0; omega, by show (0 : Int) ≤ _; omega, by show (0 : Int) ≤ 0; omega, h0, h1⟩
theorem atI_0 {α : Type} {x : α} {xs : List α} : atI (x :: xs) 0 = some x := by
  unfold atI ixN; simp
theorem atI_of {α : Type} {xs : List α} {i : Nat} {x : α} (h : xs[i]? = some x) : atI xs (i : Int) = some x := atI_nat h
theorem atI_2 {α : Type} {x y z : α} {xs : List α} : atI (x :: y :: z :: xs) 2 = some z := atI_nat (j := 2) rfl
theorem atI_3 {α : Type} {x y z u : α} {xs : List α} : atI (x :: y :: z :: u :: xs) 3 = some u := atI_nat (j := 3) rfl
theorem atI_in {α : Type} {xs : List α} {i : Int} (h0 : 0 ≤ i) (h1 : i < xs.length) : ∃ x, atI xs i = some x ∧ x ∈ xs := by
  obtain ⟨j, rfl⟩ := Int.eq_ofNat_of_zero_le h0
  have hj : j < xs.length := by omega
  exact ⟨xs[j], atI_nat (List.getElem?_eq_getElem hj), List.getElem_mem hj⟩
def sp_law_pull : SpD := fun ds M Q _ => ∃ p b n, ds = [.ref p, .int n] ∧ M p = some (.lst (Bag.l b)) ∧ b.Ok ∧ 0 < n ∧ n < 1152921504606846976 ∧ ∀ r b', Bag.Ok b' → 0 ≤ r → r < n → Q (.int r) (mupd M p (.lst b'.l))
def t_law_pull_1 : DS := (dSeq (dSet 2 (dBin rIxD (dVar 0) (dC (.int 3))))
    (dSeq (dSetIx (dBin rModI (dBin rAddD (dBin rAddD (dBin rMulI (dBin rMulI (dVar 2) (dVar 2)) (dC (.int 3))) (dBin rMulI (dVar 2) (dC (.int 16807)))) (dC (.int 1013904223))) (dC (.int 2147483563))) (dVar 0) (dC (.int 3)))
    (dRet (dBin rModI (dBin rAddD (dBin rDivW (dBin rIxD (dVar 0) (dC (.int 3))) (dC (.int 61))) (dBin rMulI (dBin rModI (dBin rIxD (dVar 0) (dC (.int 3))) (dC (.int 8191))) (dC (.int 17)))) (dVar 1)))))
def t_law_pull_2 : DS := (dSeq (dIfS (dTest (dBin rGtI (dBin rIxD (dVar 0) (dC (.int 2))) (dC (.int 0)))) (dSeq (dSet 4 (dBin rModI (dBin rIxD (dVar 0) (dC (.int 2))) (dVar 1)))
    (dSeq (dSetIx (dBin rDivW (dBin rIxD (dVar 0) (dC (.int 2))) (dVar 1)) (dVar 0) (dC (.int 2)))
    (dRet (dVar 4)))) dNext)
    t_law_pull_1)
def t_law_pull : DS := (dSeq (dIfS (dAnd (dTest (dBin (rEqDD id) (dBin rIxD (dVar 0) (dC (.int 2))) (dC (.int 0)))) (dTest (dBin rLtI (dBin rIxD (dVar 0) (dC (.int 1))) (dUn rLenD (dBin rIxD (dVar 0) (dC (.int 0))))))) (dSeq (dSet 3 (dBin rIxD (dBin rIxD (dVar 0) (dC (.int 0))) (dBin rIxD (dVar 0) (dC (.int 1)))))
    (dSeq (dSetIx (dBin rAddD (dBin rIxD (dVar 0) (dC (.int 1))) (dC (.int 1))) (dVar 0) (dC (.int 1)))
    (dIfS (dTest (dBin rGeI (dVar 3) (dBin rPowI (dC (.int 10)) (dC (.int 18))))) (dSetIx (dBin rSubI (dVar 3) (dBin rPowI (dC (.int 10)) (dC (.int 18)))) (dVar 0) (dC (.int 2))) (dSetIx (dBin rModI (dBin rAddD (dBin rAddD (dBin rMulI (dBin rIxD (dVar 0) (dC (.int 3))) (dC (.int 48271))) (dBin rMulI (dBin rModI (dVar 3) (dC (.int 2147483563))) (dC (.int 69621)))) (dC (.int 7))) (dC (.int 2147483563))) (dVar 0) (dC (.int 3)))))) dNext)
    t_law_pull_2)
theorem eqD_int {i j : Int} : eqD (.int i) (.int j) = (i == j) := rfl
theorem eqD_str {i j : Str} : eqD (.str i) (.str j) = (i == j) := rfl
theorem r_pull1 (p : Addr) (b : Bag) (n : Int) (M : Mp) (Q : DK) (nx : DEnv → Mp → Prop) (c : Option D) (hM : M p = some (.lst b.l)) (hb : b.Ok) (h0 : 0 < n) (h1 : n < 1152921504606846976)
    (q : ∀ r b', Bag.Ok b' → 0 ≤ r → r < n → Q (.int r) (mupd M p (.lst b'.l))) : t_law_pull_1 { nx := nx, rt := Q } [some (.ref p), some (.int n), none, c, none] M := by
  have s0 := hb.seed0
  have s1 := hb.seed1
  walk_at "m"
  refine ⟨.inl (by omega), ?_⟩
  walk_at "w"
  refine ⟨.inr (by omega), ?_⟩
  walk_at "w"
  refine ⟨.inl (by omega), ?_⟩
  walk_at "w"
  refine ⟨by omega, ?_⟩
  walk_at "w"
  rw [hM]
  walk_at "n"
  refine ⟨div_wide _ (by decide) (by decide), ?_⟩
  walk_at "n"
  refine ⟨by show (0 : Int) < 8191; omega, ?_⟩
  walk_at "w"
  refine ⟨.inr (by omega), ?_⟩
  walk_at "w"
  refine ⟨h0, ?_⟩
  exact q _ { b with seed := (b.seed * b.seed * 3 + b.seed * 16807 + 1013904223) % 2147483563 } ⟨hb.at0, hb.at1, hb.left0, Int.emod_nonneg _ (by decide), Int.emod_lt_of_pos _ (by decide)⟩ (Int.emod_nonneg _ (by omega)) (Int.emod_lt_of_pos _ h0)
theorem r_pull2 (p : Addr) (b : Bag) (n : Int) (M : Mp) (Q : DK) (nx : DEnv → Mp → Prop) (c : Option D) (hM : M p = some (.lst b.l)) (hb : b.Ok) (h0 : 0 < n) (h1 : n < 1152921504606846976)
    (q : ∀ r b', Bag.Ok b' → 0 ≤ r → r < n → Q (.int r) (mupd M p (.lst b'.l))) : t_law_pull_2 { nx := nx, rt := Q } [some (.ref p), some (.int n), none, c, none] M := by
  walk_at "m"
  refine brn_by (fun hc => ?_) fun hc => r_pull1 p b n M Q nx c hM hb h0 h1 q
  have hl : 0 < b.left := of_decide_eq_true hc
  walk_at "m"
  refine ⟨h0, ?_⟩
  walk_at "m"
  refine ⟨div_wide _ h0 (by omega), ?_⟩
  walk_at "w"
  rw [hM]
  walk_at "w"
  exact q _ { b with left := b.left / n } ⟨hb.at0, hb.at1, Int.ediv_nonneg hb.left0 (by omega), hb.seed0, hb.seed1⟩ (Int.emod_nonneg _ (by omega)) (Int.emod_lt_of_pos _ h0)
theorem r_law_pull (ds : List D) (M : Mp) (Q : DK) (E : DX) (hl : ds.length = 2) (h : sp_law_pull ds M Q E) : t_law_pull { nx := fun _ M' => Q .non M', rt := Q } (startD ["_law_bag_here", "_law_many", "_law_seed", "_law_cell", "_law_got"] ds) M := by
  obtain ⟨p, b, n, rfl, hM, hb, h0, h1, q⟩ := h
  walk_at "m"
  refine ⟨⟨rfl, rfl⟩, ?_⟩
  walk_at "w"
  refine brn_by (fun hc => ?_) fun hc => r_pull2 p b n M Q _ none hM hb h0 h1 q
  walk_at "m"
  rw [resD_ref hM]
  walk_at "w"
  refine brn_by (fun hc2 => ?_) fun hc2 => r_pull2 p b n M Q _ none hM hb h0 h1 q
  walk_at "m"
  have hlt : b.at_ < b.cells.length := by
    have := of_decide_eq_true hc2
    simpa using this
  rw [resD_ref hM]
  walk_at "w"
  obtain ⟨x, hx, hm⟩ := atI_in (xs := b.cells.map D.int) hb.at0 (by simpa using hlt)
  obtain ⟨z, _, rfl⟩ := List.mem_map.mp hm
  rw [hx]
  walk_at "m"
  rw [hM]
  walk_at "w"
  have hb1 : Bag.Ok { b with at_ := b.at_ + 1 } := ⟨by have := hb.at0; show 0 ≤ b.at_ + 1; omega, by show b.at_ + 1 ≤ (b.cells.length : Int); omega, hb.left0, hb.seed0, hb.seed1⟩
  refine ⟨⟨by decide, by decide, by decide⟩, ?_⟩
  walk_at "w"
  refine brn_by (fun hc3 => ?_) fun hc3 => ?_
  · walk_at "w"
    refine ⟨⟨by decide, by decide, by decide⟩, ?_⟩
    walk_at "w"
    rw [mupd_same]
    have hz : (10 : Int) ^ 18 ≤ z := of_decide_eq_true hc3
    refine r_pull2 p { b with at_ := b.at_ + 1, left := z - 10 ^ 18 } n (M := mupd (mupd M p _) p _) Q _ _ mupd_same ⟨hb1.at0, hb1.at1, by show (0 : Int) ≤ z - 10 ^ 18; omega, hb.seed0, hb.seed1⟩ h0 h1 fun r b' h1 h2 h3 => ?_
    rw [mupd_mupd, mupd_mupd]
    exact q r b' h1 h2 h3
  · walk_at "n"
    refine ⟨.inr (by omega), ?_⟩
    walk_at "w"
    refine ⟨by omega, ?_⟩
    walk_at "w"
    refine ⟨.inr (by omega), ?_⟩
    walk_at "w"
    refine ⟨by omega, ?_⟩
    walk_at "w"
    rw [mupd_same]
    refine r_pull2 p { b with at_ := b.at_ + 1, seed := (b.seed * 48271 + z % 2147483563 * 69621 + 7) % 2147483563 } n (M := mupd (mupd M p _) p _) Q _ _ mupd_same ⟨hb1.at0, hb1.at1, hb.left0, Int.emod_nonneg _ (by decide), Int.emod_lt_of_pos _ (by decide)⟩ h0 h1 fun r b' h1 h2 h3 => ?_
    rw [mupd_mupd, mupd_mupd]
    exact q r b' h1 h2 h3
def sp_law_of : SpD := fun ds M Q _ => ∃ p b d xs, ds = [.ref p, d] ∧ M p = some (.lst (Bag.l b)) ∧ b.Ok ∧ 0 < xs.length ∧ xs.length < 1000000 ∧
  ((resD M d = .lst xs ∧ d ≠ .ref p) ∨ d = .tup xs ∨ ∃ x, d = .str x ∧ xs = signs x) ∧ ∀ x b', Bag.Ok b' → x ∈ xs → Q x (mupd M p (.lst b'.l))
def sp_law_letters : SpD := fun ds M Q _ => ds = [] ∧ Q (.str letters) M
def t_law_of : DS := (dRet (dBin rIxD (dVar 1) (dCall sp_law_pull (dCons (dVar 0) (dCons (dUn rLenD (dVar 1)) dNil)))))
def t_law_letters : DS := (dRet (dC (.str "abcdefghijklmnopqrstuvwxyz")))
theorem resD_upd_ne {M : Mp} {p : Addr} {o : MO} {d : D} (h : d ≠ .ref p) : resD (mupd M p o) d = resD M d := by
  unfold resD
  split
  · rename_i q
    rw [mupd_ne (fun e => h (by rw [e]))]
  · rfl
theorem r_law_of (ds : List D) (M : Mp) (Q : DK) (E : DX) (hl : ds.length = 2) (h : sp_law_of ds M Q E) : t_law_of { nx := fun _ M' => Q .non M', rt := Q } (startD ["_law_bag_here", "_law_things"] ds) M := by
  obtain ⟨p, b, d, xs, rfl, hM, hb, h0, h1, hd, q⟩ := h
  walk_at "w"
  rcases hd with ⟨hd, hne⟩ | rfl | ⟨x, rfl, rfl⟩
  · rw [hd]
    walk_at "w"
    refine ⟨p, b, xs.length, rfl, hM, hb, by omega, by omega, fun r b' hb' r0 r1 => ?_⟩
    walk_at "w"
    rw [resD_upd_ne hne, hd]
    walk_at "w"
    obtain ⟨x, hx, hm⟩ := atI_in r0 r1
    rw [hx]
    exact q x b' hb' hm
  · refine ⟨p, b, xs.length, rfl, hM, hb, by omega, by omega, fun r b' hb' r0 r1 => ?_⟩
    walk_at "w"
    obtain ⟨x, hx, hm⟩ := atI_in r0 r1
    rw [hx]
    exact q x b' hb' hm
  · have hl2 : (signs x).length = x.length := by unfold signs Str.length; simp
    refine ⟨p, b, x.length, rfl, hM, hb, by omega, by omega, fun r b' hb' r0 r1 => ?_⟩
    walk_at "w"
    obtain ⟨c, hx, hm⟩ := atI_in (xs := x.cps.toList) r0 (by simpa [Str.length] using r1)
    rw [hx]
    exact q (sgn c) b' hb' (List.mem_map.mpr ⟨c, hm, rfl⟩)
theorem r_law_letters (ds : List D) (M : Mp) (Q : DK) (E : DX) (hl : ds.length = 0) (h : sp_law_letters ds M Q E) : t_law_letters { nx := fun _ M' => Q .non M', rt := Q } (startD [] ds) M := by
  obtain ⟨rfl, q⟩ := h
  exact q
mutual
/-- the same datum -/
def sameD : D → D → Bool
  | .non, .non => true
  | .bl a, .bl b => a == b
  | .int a, .int b => a == b
  | .str a, .str b => a == b
  | .tup a, .tup b => sameDs a b
  | .lst a, .lst b => sameDs a b
  | _, _ => false
def sameDs : List D → List D → Bool
  | [], [] => true
  | a :: as, b :: bs => sameD a b && sameDs as bs
  | _, _ => false
end
/-- promised up to the depth n -/
def sp_law_like : Nat → SpD
  | 0 => fun _ _ _ _ => False
  | n + 1 => fun ds M Q _ => ∃ d e, ds = [d, e] ∧ D.le n d = true ∧ D.le n e = true ∧ n ≤ 50 ∧ Q (.bl (sameD d e)) M
def t_law_like_1 (n : Nat) : DS := (dRet (dAndV (dBin (rEqDD id) (dUn rLenD (dVar 0)) (dUn rLenD (dVar 1))) (dUn rAllD (dLc (iZipD (dCons (dVar 0) (dCons (dVar 1) dNil))) (.tup [(.name 2), (.name 3)]) dYes (dCall (sp_law_like n) (dCons (dVar 2) (dCons (dVar 3) dNil))) [2, 3]))))
def t_law_like_2 (n : Nat) : DS := (dRet (dAndV (dBin (rEqDD id) (dIsi .str (dVar 0)) (dIsi .str (dVar 1))) (dBin (rEqDD id) (dVar 0) (dVar 1))))
def t_law_like_3 (n : Nat) : DS := (dSeq (dIfS (dOr (dTest (dBin (rEqDD not) (dIsi .bool (dVar 0)) (dIsi .bool (dVar 1)))) (dTest (dBin (rEqDD not) (dIsi .int (dVar 0)) (dIsi .int (dVar 1))))) (dRet (dC (.bl false))) dNext)
    (t_law_like_2 n))
def t_law_like_4 (n : Nat) : DS := (dSeq (dIfS (dOr (dTest (dBin (rIsD id) (dVar 0) (dC .non))) (dTest (dBin (rIsD id) (dVar 1) (dC .non)))) (dRet (dAndV (dBin (rIsD id) (dVar 0) (dC .non)) (dBin (rIsD id) (dVar 1) (dC .non)))) dNext)
    (t_law_like_3 n))
def t_law_like (n : Nat) : DS := (dSeq (dIfS (dTru (dIsi2 .list .tuple (dVar 1))) (dSeq (dIfS (dOr (dTest (dBin (rEqDD not) (dIsi .list (dVar 0)) (dIsi .list (dVar 1)))) (dTest (dBin (rEqDD not) (dIsi .tuple (dVar 0)) (dIsi .tuple (dVar 1))))) (dRet (dC (.bl false))) dNext)
    (t_law_like_1 n)) dNext)
    (t_law_like_4 n))
mutual
theorem le_mono : ∀ {n m : Nat} {d : D}, n ≤ m → D.le n d = true → D.le m d = true
  | n, m, .non, _, _ => by cases m <;> rfl
  | n, m, .bl _, _, _ => by cases m <;> rfl
  | n, m, .int _, _, _ => by cases m <;> rfl
  | n, m, .str _, _, _ => by cases m <;> rfl
  | 0, m, .tup _, _, h => by simp [D.le] at h
  | 0, m, .lst _, _, h => by simp [D.le] at h
  | n + 1, 0, .tup _, h, _ => by omega
  | n + 1, 0, .lst _, h, _ => by omega
  | n + 1, m + 1, .tup ds, h, q => by simp only [D.le] at q ⊢; exact les_mono (by omega) q
  | n + 1, m + 1, .lst ds, h, q => by simp only [D.le] at q ⊢; exact les_mono (by omega) q
  | n, m, .ref _, _, h => by cases n <;> simp [D.le] at h
  | n, m, .ty _, _, h => by cases n <;> simp [D.le] at h
  | n, m, .lsk _, _, h => by cases n <;> simp [D.le] at h
  | n, m, .obj _ _, _, h => by cases n <;> simp [D.le] at h
  | n, m, .dkd _ _ _, _, h => by cases n <;> simp [D.le] at h
  | n, m, .exc _ _ _ _, _, h => by cases n <;> simp [D.le] at h
  | n, m, .fn _ _ _, _, h => by cases n <;> simp [D.le] at h
theorem les_mono : ∀ {n m : Nat} {ds : List D}, n ≤ m → D.les n ds = true → D.les m ds = true
  | n, m, [], _, _ => by cases m <;> rfl
  | n, m, d :: ds, h, q => by
    simp only [D.les, Bool.and_eq_true] at q ⊢
    exact ⟨le_mono h q.1, les_mono h q.2⟩
end
theorem les_at : ∀ {n : Nat} {ds : List D}, D.les n ds = true → ∀ d ∈ ds, D.le n d = true
  | n, d :: ds, h, g, hg => by
    simp only [D.les, Bool.and_eq_true] at h
    rcases List.mem_cons.mp hg with rfl | hg
    · exact h.1
    · exact les_at h.2 g hg
theorem les_of : ∀ {n : Nat} {ds : List D}, (∀ d ∈ ds, D.le n d = true) → D.les n ds = true
  | n, [], _ => rfl
  | n, d :: ds, h => by
    simp only [D.les, Bool.and_eq_true]
    exact ⟨h d List.mem_cons_self, les_of fun g hg => h g (List.mem_cons_of_mem _ hg)⟩
theorem same_zip : ∀ {a b : List D}, a.length = b.length → ((List.zipWith (fun x y => D.tup [x, y]) a b).map fun z => match z with
    | .tup [x, y] => sameD x y
    | _ => false).all id = sameDs a b
  | [], [], _ => rfl
  | x :: a, y :: b, h => by
    have := same_zip (a := a) (b := b) (by simpa using h)
    simp only [List.zipWith_cons_cons, List.map_cons, List.all_cons, id_eq, sameDs, ← this]
  | [], _ :: _, h => by simp at h
  | _ :: _, [], h => by simp at h
theorem sameDs_len : ∀ {a b : List D}, a.length ≠ b.length → sameDs a b = false
  | [], [], h => absurd rfl h
  | [], _ :: _, _ => rfl
  | _ :: _, [], _ => rfl
  | x :: a, y :: b, h => by
    simp only [sameDs]
    rw [sameDs_len (a := a) (b := b) (by simpa using h), Bool.and_false]
def pairSame (z : D) : Bool := match z with
  | .tup [x, y] => sameD x y
  | _ => false
theorem r_like_seq (n : Nat) (a b : List D) (d e : D) (M : Mp) (Q : DK) (nx : DEnv → Mp → Prop) (hn : n ≤ 49) (la : D.les n a = true) (lb : D.les n b = true) (hd : (d = .lst a ∧ e = .lst b) ∨ (d = .tup a ∧ e = .tup b))
    (q : Q (.bl (sameDs a b)) M) : t_law_like_1 (n + 1) { nx := nx, rt := Q } [some d, some e, none, none] M := by
  have key : ∀ zs, zs = List.zipWith (fun x y => D.tup [x, y]) a b → a.length = b.length → dLcL (.tup [(.name 2), (.name 3)]) dYes (dCall (sp_law_like (n + 1)) (dCons (dVar 2) (dCons (dVar 3) dNil))) (wipeD [some d, some e, none, none] [2, 3]) zs [] M (fun ds M2 => rAllD (.lst ds) M2 Q) := by
    rintro zs rfl hl
    refine lc_map (fun z => .bl (pairSame z)) (fun z hz K1 K2 hK => ?_) ?_
    · obtain ⟨i, hi⟩ := List.getElem?_of_mem hz
      obtain ⟨x, y, h1, h2, rfl⟩ := zip_at hi
      walk_at "w"
      exact ⟨x, y, rfl, les_at la x (List.mem_of_getElem? h1), les_at lb y (List.mem_of_getElem? h2), by omega, hK⟩
    · have e1 : (List.zipWith (fun x y => D.tup [x, y]) a b).map (fun z => D.bl (pairSame z)) = ((List.zipWith (fun x y => D.tup [x, y]) a b).map pairSame).map D.bl := by rw [List.map_map]; rfl
      rw [e1]
      walk_at "w"
      rw [asBls_map]
      have e2 : ((List.zipWith (fun x y => D.tup [x, y]) a b).map pairSame).all id = sameDs a b := same_zip hl
      show Q (.bl (((List.zipWith (fun x y => D.tup [x, y]) a b).map pairSame).all id)) M
      rw [e2]
      exact q
  rcases hd with ⟨rfl, rfl⟩ | ⟨rfl, rfl⟩
  all_goals
    walk_at "w"
    refine ⟨⟨rfl, rfl⟩, ?_⟩
    walk_at "w"
    refine brn_by (fun hc => ?_) fun hc => ?_
    · have hl : a.length = b.length := by
        have h1 : ((a.length : Int) == (b.length : Int)) = true := hc
        exact Int.ofNat.inj (eq_of_beq h1)
      walk_at "w"
      exact key _ rfl hl
    · have hl : a.length ≠ b.length := by
        intro h
        have h1 : ((a.length : Int) == (b.length : Int)) = false := hc
        simp [h] at h1
      rw [sameDs_len hl] at q
      have h1 : ((a.length : Int) == (b.length : Int)) = false := hc
      show Q (.bl (id (eqD (.int a.length) (.int b.length)))) M
      rw [eqD_int, h1]
      exact q
theorem r_law_like (n : Nat) (ds : List D) (M : Mp) (Q : DK) (E : DX) (hl : ds.length = 2) (h : sp_law_like (n + 1) ds M Q E) : t_law_like n { nx := fun _ M' => Q .non M', rt := Q } (startD ["_law_found", "_law_due", "_law_one", "_law_other"] ds) M := by
  obtain ⟨d, e, rfl, ld, le, hn, q⟩ := h
  cases e <;> cases d <;> first
    | (exfalso; cases n <;> simp [D.le] at ld; done)
    | (exfalso; cases n <;> simp [D.le] at le; done)
    | skip
  all_goals
    walk_at "w"
    try refine ⟨⟨rfl, rfl⟩, ?_⟩
    try walk_at "w"
    try refine ⟨⟨rfl, rfl⟩, ?_⟩
    try walk_at "w"
    first
      | exact q
      | (refine ⟨⟨rfl, rfl⟩, ?_⟩; walk_at "w"; exact q)
      | (refine ⟨⟨rfl, rfl⟩, ?_⟩; walk_at "w"; refine ⟨⟨rfl, rfl⟩, ?_⟩; walk_at "w"; exact q)
      | (refine ⟨⟨rfl, rfl⟩, ?_⟩; walk_at "w"; refine ⟨⟨rfl, rfl⟩, ?_⟩; walk_at "w"; refine ⟨⟨rfl, rfl⟩, ?_⟩; walk_at "w"; exact q)
      | (refine ⟨⟨by cases n <;> rfl, by cases n <;> rfl⟩, ?_⟩; exact q)
      | (cases n with
        | zero => simp [D.le] at ld
        | succ m => exact r_like_seq m _ _ _ _ M Q _ (by omega) (by simpa [D.le] using ld) (by simpa [D.le] using le) (.inr ⟨rfl, rfl⟩) q)
      | (cases n with
        | zero => simp [D.le] at ld
        | succ m => exact r_like_seq m _ _ _ _ M Q _ (by omega) (by simpa [D.le] using ld) (by simpa [D.le] using le) (.inl ⟨rfl, rfl⟩) q)
theorem z_law_like (ds : List D) (M : Mp) (Q : DK) (E : DX) (h : sp_law_like 0 ds M Q E) : False := h
end L3
set_option Elab.async false
set_option linter.all false
set_option maxRecDepth 100000
set_option maxHeartbeats 1000000
set_option Elab.async false
set_option linter.all false
set_option maxRecDepth 100000
set_option maxHeartbeats 1000000
set_option Elab.async false
set_option linter.all false
set_option maxRecDepth 100000
set_option maxHeartbeats 1000000
namespace L3
open PySem PySem.Spec PyProof.Rows L2
structure InitKOk (P : Program) (w : World) (K : PySem.W.Frag) (mg : Str → Option Value) (base : Heap) (k : Nat) (c : Cl) (qual : Str) (st : Stmt) (ps : List Str) (kwd : List (Str × D)) (sp : SpD) : Prop where
  ex : ∃ f fd kws, FnOk P w K mg base (L2N.CX P w) k f fd ps (upSp K ps.length sp) ∧ FunD K "__init__" qual (defArgs st) (defBody st) (defScope st) [] kws f fd ∧ Mk K (He.ga K c.nm) f ∧ mg c.nm = some (.ref (He.ga K c.nm)) ∧ kws.map (·.1) = kwd.map (·.1) ∧ ∀ F, Reps K F (kwd.map (·.2)) (kws.map (·.2))
/-- made with n values and the keywords ks; g puts them, and the lacking ones' data, in the parameters' order -/
structure MkKOk (P : Program) (w : World) (K : PySem.W.Frag) (mg : Str → Option Value) (base : Heap) (k : Nat) (c : Cl) (n : Nat) (ks : List Str) (g : List D → List D → List D) (sp : SpD) : Prop where
  ex : ∃ f fd ps gv gV np, FnOk P w K mg base (L2N.CX P w) k f fd ps (upSp K np sp) ∧ Mk K (He.ga K c.nm) f ∧ mg c.nm = some (.ref (He.ga K c.nm)) ∧ KBn K fd ps (n + 1) ks gv gV ∧
    ∀ F ds vs es zs, Reps K F ds vs → Reps K F es zs → ds.length = n + 1 → es.length = ks.length → Reps K F (g ds es) (gV vs zs) ∧ (g ds es).length = np
theorem MkKOk.mono {P : Program} {w : World} {K : PySem.W.Frag} {mg : Str → Option Value} {base : Heap} {j k : Nat} {c : Cl} {n : Nat} {ks : List Str} {g : List D → List D → List D} {sp : SpD} (d : MkKOk P w K mg base j c n ks g sp) (h : j ≤ k) : MkKOk P w K mg base k c n ks g sp := by
  obtain ⟨f, fd, ps, gv, gV, np, a, b⟩ := d.ex
  exact ⟨f, fd, ps, gv, gV, np, a.mono h, b⟩
/-- from the __init__: ms the keyword-only parameters that lack -/
theorem InitKOk.make {P : Program} {w : World} {K : PySem.W.Frag} {mg : Str → Option Value} {base : Heap} {k : Nat} {c : Cl} {qual : Str} {st : Stmt} {ps : List Str} {kwd : List (Str × D)} {sp : SpD} (o : InitKOk P w K mg base k c qual st ps kwd sp) (n : Nat) (ks : List Str) (is : List Nat)
    (g : {α : Type} → List α → List α → List α → List α) (gD : List D → List D → List D) (hne : kwd ≠ []) (his : ∀ i ∈ is, i < kwd.length) (hgD : ∀ ds es, gD ds es = g ds (is.map fun i => ((kwd.map (·.2))[i]?).getD .non) es)
    (hlen : ∀ ds es : List D, ds.length = n + 1 → es.length = ks.length → (gD ds es).length = ps.length)
    (hrel : ∀ {vs mz zs : List V} {us mv ws : List Value}, Vals vs us → Vals mz mv → Vals zs ws → Vals (g vs mz zs) (g us mv ws))
    (hrep : ∀ (K : PySem.W.Frag) (F : Hp) {ds ms es : List D} {vs mz zs : List V}, Reps K F ds vs → Reps K F ms mz → Reps K F es zs → Reps K F (g ds ms es) (g vs mz zs))
    (h : ∀ (D : Addr) (doc pm : Value) (an : Option Addr) (cdv ct : Value) (us mv ws : List Value), us.length = n + 1 → mv.length = is.length → ws.length = ks.length →
      KwChain D ((is.map fun i => ((kwd.map (·.1))[i]?).getD Str.empty).zip mv) (bindArgs (PySem.W.fnOf "__init__" qual (defArgs st) (defBody st) (defScope st) .none (.ref D) doc pm an cdv ct) ⟨us, ks.zip ws⟩) (ps.zip (g us mv ws))) :
    MkKOk P w K mg base k c n ks gD sp := by
  obtain ⟨f, fd, kws, G, F, hm, hg, hn, hd⟩ := o.ex
  have lk : kws.length = kwd.length := by have := congrArg List.length hn; simpa using this
  have kne : kws ≠ [] := fun e => hne (List.eq_nil_of_length_eq_zero (by rw [← lk, e]; rfl))
  have at_ : ∀ i, i < kwd.length → kws[i]? = some ((kws[i]?).getD (Str.empty, V.non)) := fun i hi => by
    rw [List.getElem?_eq_getElem (show i < kws.length by omega)]; rfl
  obtain ⟨mv, hb⟩ := F.kbinds0 (ps := ps) (n + 1) ks (is.map fun i => (kws[i]?).getD (Str.empty, V.non)) g kne (fun q hq => by
    obtain ⟨i, hi, rfl⟩ := List.mem_map.mp hq
    exact List.mem_of_getElem? (at_ i (his i hi))) hrel fun D doc pm an cdv ct us mv ws l1 l2 l3 => by
      have e : (is.map fun i => (kws[i]?).getD (Str.empty, V.non)).map (·.1) = is.map fun i => ((kwd.map (·.1))[i]?).getD Str.empty := by
        rw [List.map_map]
        refine List.map_congr_left fun i hi => ?_
        rw [← hn, List.getElem?_map, at_ i (his i hi)]; rfl
      rw [e]
      exact h D doc pm an cdv ct us mv ws l1 (by simpa using l2) l3
  refine ⟨f, fd, ps, _, _, ps.length, G, hm, hg, hb, fun F' ds vs es zs r1 r2 l1 l2 => ⟨?_, hlen ds es l1 l2⟩⟩
  rw [hgD]
  refine hrep K F' r1 ?_ r2
  have all := hd F'
  clear hb hgD hlen h
  induction is with
  | nil => exact rfl
  | cons i is ih =>
    have hi := his i List.mem_cons_self
    have e1 : (kwd.map (·.2))[i]? = some (((kwd.map (·.2))[i]?).getD .non) := by
      rw [List.getElem?_eq_getElem (by rw [List.length_map]; exact hi)]; rfl
    obtain ⟨v, hv, rv⟩ := all.get e1
    refine ⟨_, _, rfl, ?_, ih fun j hj => his j (List.mem_cons_of_mem _ hj)⟩
    have e2 : ((kws[i]?).getD (Str.empty, V.non)).2 = v := by
      rw [List.getElem?_map, at_ i hi] at hv
      exact Option.some.inj hv
    show Rep K F' _ ((kws[i]?).getD (Str.empty, V.non)).2
    rw [e2]; exact rv
end L3
set_option Elab.async false
set_option linter.all false
set_option maxRecDepth 100000
set_option maxHeartbeats 1000000
namespace L3
open PySem PySem.Spec PyProof.Rows L2
abbrev DEX := DEnv → Mp → DK → DX → Prop
abbrev DSX := DEnds → DX → DEnv → Mp → Prop
def upX (K : PySem.W.Frag) (E : XK) (t : DEX) : TE := fun σ H Q => ∃ R F env M Qd Ed, At K R F M H ∧ EnvR K F σ env ∧ t env M Qd Ed ∧ KD K R F Qd Q ∧ KX K R F Ed E
def upSX (K : PySem.W.Frag) (E : XK) (t : DSX) : TS := fun D σ H => ∃ R F env M Dd Ed, At K R F M H ∧ EnvR K F σ env ∧ t Dd Ed env M ∧ KE K R F Dd D ∧ KX K R F Ed E
abbrev PDEX (X : Cx) (E : XK) (e : Expr) (t : DEX) : Prop := PE X e (upX X.K E t)
abbrev PDSX (X : Cx) (E : XK) (st : Stmt) (t : DSX) : Prop := PS X st (upSX X.K E t)
abbrev PDSsX (X : Cx) (E : XK) (st : List Stmt) (t : DSX) : Prop := PSs X st (upSX X.K E t)
theorem ps_nox {X : Cx} {st : Stmt} {t : TS} (h : PS X.nox st t) : PS X st t := ⟨fun pins s σ H D I hw =>
  wpAny_mono (h.run pins s σ H D (I.wish _) hw) (fun f s' q => q.unwish) fun e s' z => z.elim⟩
theorem pa_nox {X : Cx} {es : List Expr} {t : TA} (h : PA X.nox es t) : PA X es t := ⟨fun pos pins s σ H Q I hw =>
  wpAny_mono (h.run pos pins s σ H Q (I.wish _) hw) (fun us s' ⟨vs, H', I', r, q⟩ => ⟨vs, H', I'.unwish, r, q⟩) fun e s' z => z.elim⟩
section
variable {X : Cx} {E : XK} {st : Stmt} {rest : List Stmt} {e : Expr} {pos : Pos}
def xS (t : DS) : DSX := fun D _ env M => t D env M
theorem psx_of {t : DS} (h : PDS X.nox st t) : PDSX X E st (xS t) := ps_imp (ps_nox h) fun D σ H ⟨R, F, env, M, Dd, Ed, a, en, h, k, kx⟩ => ⟨R, F, env, M, Dd, a, en, h, k⟩
theorem pssx_of {ss : List Stmt} {t : DS} (h : PDSs X.nox ss t) : PDSsX X E ss (xS t) := pss_imp h.nox fun D σ H ⟨R, F, env, M, Dd, Ed, a, en, h, k, kx⟩ => ⟨R, F, env, M, Dd, a, en, h, k⟩
def xSeq (t u : DSX) : DSX := fun D E env M => t { D with nx := fun e m => u D E e m } E env M
theorem pssx_cons {t u : DSX} (h1 : PDSX X E st t) (h2 : PDSsX X E rest u) : PDSsX X E (st :: rest) (xSeq t u) :=
  pss_imp (pss_cons h1 h2) fun D σ H ⟨R, F, env, M, Dd, Ed, a, en, h, k, kx⟩ => ⟨R, F, env, M, _, Ed, a, en, h, ⟨fun F1 H1 M1 env1 σ1 s1 a1 e1 q1 => ⟨R, F1, env1, M1, Dd, Ed, a1, e1, q1, k.mono s1, kx.mono s1⟩, k.rt, k.bk, k.ct⟩, kx⟩
theorem pssx_one {t : DSX} (h1 : PDSX X E st t) : PDSsX X E [st] t := pss_one h1
def xIf (c : DT) (t u : DSX) : DSX := fun D E env M => c env M fun b M1 => brn b (t D E env M1) (u D E env M1)
theorem psx_if {c : Expr} {a b : List Stmt} {tc : DT} {t u : DSX} (hc : PDT X.nox c tc) (ha : PDSsX X E a t) (hb : PDSsX X E b u) : PDSX X E (.If c a b pos) (xIf tc t u) :=
  ps_imp (ps_if hc.nox ha hb) fun D σ H ⟨R, F, env, M, Dd, Ed, a, en, h, k, kx⟩ => ⟨R, F, env, M, _, a, en, h, fun F1 H1 M1 b s1 a1 q1 => by
    cases b with
    | true => rw [brn_t] at q1; rw [if_pos rfl]; exact ⟨R, F1, env, M1, Dd, Ed, a1, en.mono s1, q1, k.mono s1, kx.mono s1⟩
    | false => rw [brn_f] at q1; rw [if_neg Bool.false_ne_true]; exact ⟨R, F1, env, M1, Dd, Ed, a1, en.mono s1, q1, k.mono s1, kx.mono s1⟩⟩
abbrev TakeX (X : Cx) (E : XK) : Prop := L2N.Takes X fun cls d _ H => E cls d H
theorem passX (tk : TakeX X E) : Passes (L2N.CX X.prog X.w) X E := L2N.passes_call tk fun cls d σ H h => h
def xCall (sp : SpD) (t : DA) : DEX := fun env M Q E => t env M fun ds M1 => sp ds M1 Q E
theorem pdx_call {e : Expr} {es : List Expr} {t : DA} {p : Pos} {k : Nat} {x : Str} {n : Nat} {sp : SpD} (tk : TakeX X E) (d : DefOk X.prog X.w X.K X.mg X.base k x n sp) (hr : Room k X.A) (ha : PDA X.nox (e :: es) t) (hn : (e :: es).length = n := by rfl) (hg : Gl X x := by rfl)
    (hdb : (x == ("__debug__" : Str)) = false := by decide) (he : starEach (e :: es) X.env = (false, eval e X.env) :: starEach es X.env := by rfl) (hpl : (backTo pos (starEach es X.env)).any (·.1) = false := by rfl) :
    PDEX X E (.Call (.Name x p) (e :: es) [] pos) (xCall sp t) := by
  obtain ⟨f, fd, ps, F, hl, hm, hk, hb⟩ := d.ex
  refine pe_imp (pe_call F hr hg hm hk hb .nil (passX tk) (pa_nox ha) hdb he hpl) fun σ H Q ⟨R, F, env, M, Qd, Ed, a, en, h, k, kx⟩ => ⟨R, F, env, M, _, a, en, h, fun F1 H1 M1 ds vs s1 a1 r1 l1 q1 => ?_⟩
  show upSp X.K n sp (vs ++ []) H1 Q E
  rw [List.append_nil]
  exact ⟨R, F1, M1, ds, Qd, Ed, a1, r1, by rw [l1, hn], q1, k.mono s1, kx.mono s1⟩
end
abbrev bodyX (P : Program) (w : World) (K : PySem.W.Frag) (mg : Str → Option Value) (base : Heap) (N : List Str) (x : Str) (st : Stmt) (f : Addr) (cdv : Value) (A : Around) (outer : List PySem.Env) (s : Shared) (H : Hp) (E : XK) : Cx :=
  cxOf (L2N.CX P w) P w K mg base N x (defScope st) f cdv A outer s H E
theorem takes_body {P : Program} {w : World} {K : PySem.W.Frag} {mg : Str → Option Value} {base : Heap} {N : List Str} {x : Str} {st : Stmt} {f : Addr} {cdv : Value} {A : Around} {outer : List PySem.Env} {s : Shared} {H : Hp} {E : XK} : TakeX (bodyX P w K mg base N x st f cdv A outer s H E) E :=
  L2N.takes_of rfl rfl rfl rfl
theorem def_okX {P : Program} {w : World} {K : PySem.W.Frag} {mg : Str → Option Value} {base : Heap} {k : Nat} {x : Str} {st : Stmt} {N ps : List Str} {sp : SpD} {t : DSX} (d : DefAt K mg x st) (S : FnScope N ps (defScope st))
    (bind : ∀ (kV doc pm : Value) (an : Option Addr) (cdv ct : Value) (us : List Value), us.length = ps.length → bindArgs (PySem.W.fnOf x x (defArgs st) (defBody st) (defScope st) .none kV doc pm an cdv ct) ⟨us, []⟩ = pure (ps.zip us))
    (hb : ∀ f cdv A outer s H E, Room k (A.deeper (envOfC x (defScope st) s.heap.objs.size f cdv)) → PDSsX (bodyX P w K mg base N x st f cdv A outer s H E) E (defBody st) t)
    (hr : ∀ ds M Q E, ds.length = ps.length → sp ds M Q E → t { nx := fun _ M' => Q .non M', rt := Q } E (startD N ds) M) : DefOk P w K mg base (k + 1) x ps.length sp := by
  obtain ⟨f, fd, F, hm⟩ := d.ex
  refine ⟨f, fd, ps, F.ok S (fun vs H Q E ⟨R, F, M, ds, Qd, Ed, _, r, hl, _⟩ => by rw [← r.length, hl]) (fun cdv A outer s H vs Q E hroom h => ?_), rfl, hm, F.kp, F.bindsN bind⟩
  obtain ⟨R, F', M, ds, Qd, Ed, a, r, hl, hsp, kd, kx⟩ := h
  exact ⟨_, hb f cdv A outer s H E hroom, R, F', startD N ds, M, { nx := fun _ M' => Qd .non M', rt := Qd }, Ed, a, start_env r, hr ds M Qd Ed hl hsp, ⟨fun F1 H1 M1 env1 σ1 s1 a1 e1 q => kd F1 H1 M1 .non .non s1 a1 rfl q, kd, fun _ _ _ _ _ _ _ _ q => q.elim, fun _ _ _ _ _ _ _ _ q => q.elim⟩, kx⟩
end L3
set_option Elab.async false
set_option linter.all false
set_option maxRecDepth 100000
set_option maxHeartbeats 4000000
namespace L3
open PySem PySem.Spec PyProof.Rows L2 ClX
/-- the built-in class below -/
inductive Bs where
  | ve | le | ie
  deriving DecidableEq
namespace Bs
abbrev nm : Bs → String
  | ve => "ValueError" | le => "LookupError" | ie => "IndexError"
abbrev new : Bs → String
  | ve => "ValueError.__new__" | le => "LookupError.__new__" | ie => "IndexError.__new__"
abbrev ini : Bs → String
  | ve => "ValueError.__init__" | le => "LookupError.__init__" | ie => "IndexError.__init__"
abbrev tl : Bs → List Value
  | ve => [.type "ValueError", .type "Exception", .type "BaseException", .type "object"]
  | le => [.type "LookupError", .type "Exception", .type "BaseException", .type "object"]
  | ie => [.type "IndexError", .type "LookupError", .type "Exception", .type "BaseException", .type "object"]
theorem base : ∀ b : Bs, ExcBaseFacts b.nm b.new b.ini b.tl
  | ve => PySem.F.excBase_ValueError | le => PySem.F.excBase_LookupError | ie => PySem.F.excBase_IndexError
theorem pass (self : Value) : ∀ b : Bs, refuseLoop self "__setattr__" b.tl = pure ()
  | ve => PySem.F.store_ValueError.passes self | le => PySem.F.store_LookupError.passes self | ie => PySem.F.store_IndexError.passes self
theorem obj : ∀ b : Bs, b.tl.contains (.type "object") = true
  | ve => by decide +kernel | le => by decide +kernel | ie => by decide +kernel
/-- own classes, then the built-in one's -/
def Refs (b : Bs) (l : List Value) : Prop := ∃ cs : List Addr, l = cs.map Value.ref ++ b.tl
def refs (b : Bs) : List Value → Bool
  | .ref _ :: r => refs b r
  | l => l == b.tl
theorem refs_ok (b : Bs) : ∀ l : List Value, refs b l = true → Refs b l
  | .ref c :: r, e => let ⟨cs, h⟩ := refs_ok b r e; ⟨c :: cs, by rw [h]; rfl⟩
  | [], e => ⟨[], beq_iff_eq.mp e⟩
  | .none :: _, e => ⟨[], beq_iff_eq.mp e⟩
  | .ellipsis :: _, e => ⟨[], beq_iff_eq.mp e⟩
  | .notImplemented :: _, e => ⟨[], beq_iff_eq.mp e⟩
  | .bool _ :: _, e => ⟨[], beq_iff_eq.mp e⟩
  | .int _ _ :: _, e => ⟨[], beq_iff_eq.mp e⟩
  | .float _ _ :: _, e => ⟨[], beq_iff_eq.mp e⟩
  | .str _ _ :: _, e => ⟨[], beq_iff_eq.mp e⟩
  | .bytes _ _ :: _, e => ⟨[], beq_iff_eq.mp e⟩
  | .type _ :: _, e => ⟨[], beq_iff_eq.mp e⟩
  | .builtin _ :: _, e => ⟨[], beq_iff_eq.mp e⟩
theorem Refs.cons {b : Bs} {l : List Value} (h : Refs b l) (c : Addr) : Refs b (.ref c :: l) := let ⟨cs, e⟩ := h; ⟨c :: cs, by rw [e]; rfl⟩
theorem Refs.pass {b : Bs} {l : List Value} (h : Refs b l) (self : Value) : refuseLoop self "__setattr__" l = pure () := by
  obtain ⟨cs, rfl⟩ := h
  induction cs with
  | nil => exact b.pass self
  | cons c cs ih => exact (refuseLoop_ref _ _ _ _).trans ih
theorem Refs.has {b : Bs} {l : List Value} (h : Refs b l) (Y : String) : l.contains (.type Y) = b.tl.contains (.type Y) := by
  obtain ⟨cs, rfl⟩ := h
  induction cs with
  | nil => rfl
  | cons c cs ih =>
    show (Value.ref c :: (cs.map Value.ref ++ b.tl)).contains (.type Y) = _
    rw [List.contains_cons, ih]; rfl
theorem Refs.some {b : Bs} {l : List Value} (h : Refs b l) : l.isEmpty = false := by
  obtain ⟨cs, rfl⟩ := h
  cases cs with
  | nil => cases b <;> rfl
  | cons c cs => rfl
end Bs
section
open Builtin Builtin.ObjectAttr
variable {b : Bs} {prog : Program} {w : World} {A : Around} {R : Result → Shared → Prop} {hp : Heap} {gs : Array GenState} {dr : Drawn} {tn : Nat} {osn : OsState} {K : PySem.W.Frag} {nf : Str} {tok : Tok} {v : Value} {x C dx : Addr} {fv : Array Value} {cd : ClassData}
abbrev ndo (C : Addr) (fv : Array Value) : Obj := { cls := .ref C, data := .fields fv }
abbrev wdo (C dx : Addr) (fv : Array Value) : Obj := { cls := .ref C, dict := some dx, data := .fields fv }
/-- e.nf = v, e without its dict -/
theorem osaN (X : K.In hp) (hx : hp.get? x = some (ndo C fv)) (hcd : PySem.W.clsIn K C = some cd) (hm : b.Refs cd.mro) (hh : cd.hasDict = true) (ha : PySem.W.findIn K (.ref C) nf = some none)
    (hq : ∀ h1 t1 dx, (∀ c o, c ≠ x → hp.get? c = some o → h1.get? c = some o) → hp.objs.size ≤ dx → dx ≠ x → h1.get? x = some (wdo C dx fv) → h1.Ns1 dx (fun y => if y = nf then some v else none) → R (.ok (.ret .none)) ⟨h1, gs, dr, t1, osn⟩) :
    codeAny (model prog w) A (.call (.builtin "object.__setattr__") ⟨[.ref x, .str nf tok, v], []⟩) R ⟨hp, gs, dr, tn, osn⟩ := by
  have J : PySem.W.InstAt hp x (ndo C fv) C none := ⟨hx, rfl, rfl, trivial⟩
  have S0 := PySem.F.store_object
  have nx : x ≠ hp.objs.size := Nat.ne_of_lt (Heap.lt_size hx)
  have io : PySem.W.Looks (model prog w) hp (isInstance (.ref x) (.type "object")) true := J.type.andThen (PySem.W.looks_mroIn X (by unfold PySem.W.mroIn; rw [hcd, Option.bind_some, if_neg (by rw [hm.some]; decide), hm.has, b.obj]))
  refine codeAny_call_builtin S0.slot.plain S0.entry (@PySem.W.check_slot (model prog w) _ _ ⟨hp, gs, dr, tn, osn⟩ "object.__setattr__" "object" "__setattr__" (.ref x) [.str nf tok, v] [] _ S0.kind S0.split io (S0.args (.ref x) (.str nf tok) v) ?_)
  have q1 : PySem.W.Looks (model prog w) hp (mroOf (.ref C)) cd.mro := (PySem.W.looks_clsIn X hcd).andThen .now
  have q2 : PySem.W.Looks (model prog w) hp (storeTaker? none) none := .now
  have q3 : PySem.W.Looks (model prog w) hp (classData C) cd := PySem.W.looks_clsIn X hcd
  rw [PySem.W.osa_eq, refuse_eq]
  refine wpAny_bind (wpAny_bind (J.type.at (wpAny_bind (q1.at ?_))))
  rw [hm.pass]
  refine wpAny_pure (wpAny_bind (J.type.at (wpAny_bind ((PySem.W.looks_findIn X ha).at (wpAny_bind (q2.at ?_))))))
  show wpAny _ _ (storeInOwnDict (.ref x) (.ref C) (.str nf tok) nf v false) _ _ _
  obtain ⟨c1, c2, c3, c4, c5, c6, c7, c8, c9, c10, c11⟩ := cd
  dsimp only at hh
  subst hh
  unfold storeInOwnDict ownDictForStores
  repeat (first | with_reducible refine HandSPX.store_in_new ?_ ?_ | with_reducible refine wpAny_loadPart_at hx ?_ | with_reducible refine q3.at ?_ | wp_step)
  · exact ⟨_, #[], _, (Heap.get?_update_ne _ _ _ _ nx.symm).trans (Heap.get?_push_at rfl rfl), rfl, fun e he => absurd he (by simp), fun _ => rfl⟩
  · intro h1 t1 hn1 hs
    have hx1 : (hp.push { cls := .type "dict", data := .dict #[] }).get? x = some (ndo C fv) := Heap.get?_push_of_some _ hx
    refine hq h1 t1 hp.objs.size (fun c o hc ho => ?_) (Nat.le_refl _) nx.symm ?_ hn1
    · exact (hs.2 c (Nat.ne_of_lt (Heap.lt_size ho))).trans ((Heap.get?_update_ne _ _ _ _ hc).trans (Heap.get?_push_of_some _ ho))
    · exact (hs.2 x nx).trans (Heap.get?_update_self _ hx1 rfl)
/-- e.nf = v, e with its dict -/
theorem osaO {m0 : Str → Option Value} {ns : List Str} (X : K.In hp) (hx : hp.get? x = some (wdo C dx fv)) (hns : hp.Ns1 dx m0) (hw : Within m0 ns) (hz : ns.length ≤ 1000) (hcd : PySem.W.clsIn K C = some cd) (hm : b.Refs cd.mro) (hh : cd.hasDict = true) (ha : PySem.W.findIn K (.ref C) nf = some none)
    (hq : ∀ h1 t1, (∀ c o, c ≠ dx → hp.get? c = some o → h1.get? c = some o) → h1.Ns1 dx (fun y => if y = nf then some v else m0 y) → R (.ok (.ret .none)) ⟨h1, gs, dr, t1, osn⟩) :
    codeAny (model prog w) A (.call (.builtin "object.__setattr__") ⟨[.ref x, .str nf tok, v], []⟩) R ⟨hp, gs, dr, tn, osn⟩ := by
  obtain ⟨oD, eD, pD, hoD, hdD, _⟩ := hns.count hw
  have J : PySem.W.InstAt hp x (wdo C dx fv) C (some oD) := ⟨hx, rfl, rfl, hoD⟩
  have S0 := PySem.F.store_object
  have io : PySem.W.Looks (model prog w) hp (isInstance (.ref x) (.type "object")) true := J.type.andThen (PySem.W.looks_mroIn X (by unfold PySem.W.mroIn; rw [hcd, Option.bind_some, if_neg (by rw [hm.some]; decide), hm.has, b.obj]))
  refine codeAny_call_builtin S0.slot.plain S0.entry (@PySem.W.check_slot (model prog w) _ _ ⟨hp, gs, dr, tn, osn⟩ "object.__setattr__" "object" "__setattr__" (.ref x) [.str nf tok, v] [] _ S0.kind S0.split io (S0.args (.ref x) (.str nf tok) v) ?_)
  have q1 : PySem.W.Looks (model prog w) hp (mroOf (.ref C)) cd.mro := (PySem.W.looks_clsIn X hcd).andThen .now
  have q2 : PySem.W.Looks (model prog w) hp (storeTaker? none) none := .now
  have q3 : PySem.W.Looks (model prog w) hp (classData C) cd := PySem.W.looks_clsIn X hcd
  rw [PySem.W.osa_eq, refuse_eq]
  refine wpAny_bind (wpAny_bind (J.type.at (wpAny_bind (q1.at ?_))))
  rw [hm.pass]
  refine wpAny_pure (wpAny_bind (J.type.at (wpAny_bind ((PySem.W.looks_findIn X ha).at (wpAny_bind (q2.at ?_))))))
  show wpAny _ _ (storeInOwnDict (.ref x) (.ref C) (.str nf tok) nf v false) _ _ _
  obtain ⟨c1, c2, c3, c4, c5, c6, c7, c8, c9, c10, c11⟩ := cd
  dsimp only at hh
  subst hh
  unfold storeInOwnDict ownDictForStores
  repeat (first | with_reducible refine PySem.OEX.store_in_old hns hw hz ?_ | with_reducible refine wpAny_loadPart_at hx ?_ | with_reducible refine q3.at ?_ | wp_step)
  intro h1 t1 hn1 hs
  exact hq h1 t1 (fun c o hc ho => (hs.2 c hc).trans ho) hn1
end
theorem typ_LE : typeOf (.type "LookupError") = pure (.type "type") := by kernel_rfl
theorem typ_IE : typeOf (.type "IndexError") = pure (.type "type") := by kernel_rfl
theorem Bs.typ : ∀ b : Bs, typeOf (.type b.nm) = pure (.type "type")
  | .ve => PySem.OEX.typ_VE | .le => typ_LE | .ie => typ_IE
/-- what the written part says of a class over b -/
structure OexB (K : PySem.W.Frag) (C : Addr) (b : Bs) : Prop where
  cls : ∃ nm q N bs bm sn sub ab col dd k0 k1 k2 k3 k5, K.lookup C = some (excClassObj nm q C N bs bm true sn sub ab col dd k0 k1 k2 k3 k5 b.new) ∧ b.Refs bm
  sa : PySem.W.findIn K (.ref C) "__setattr__" = some (some (.builtin "object.__setattr__"))
  exC : PySem.W.subIn K (.ref C) (.type "BaseException") = some true
  tyC : PySem.W.typeIn K (.ref C) = some (.type "type")
  kC : PySem.W.keepIn K (.ref C) = true
theorem OexB.cd {K : PySem.W.Frag} {C : Addr} {b : Bs} (T : OexB K C b) : ∃ cd, PySem.W.clsIn K C = some cd ∧ b.Refs cd.mro ∧ cd.hasDict = true := by
  obtain ⟨nm, q, N, bs, bm, sn, sub, ab, col, dd, k0, k1, k2, k3, k5, hC, hbm⟩ := T.cls
  exact ⟨{ name := nm, bases := bs, mro := .ref C :: bm, ns := N, qualname := q, hasDict := true, slotNames := sn, subclasses := sub, abstract := ab, collection := col, hasDel := false }, by unfold PySem.W.clsIn; rw [hC] <;> rfl, hbm.cons C, rfl⟩
section
variable {X : Cx} {pins : List (Addr × Obj)} {σ : L2.St} {H : Hp} {s : Shared} {a C dx : Addr} {f : Str} {y : V} {u : Value} {fs : List (Str × V)} {Q : Unit → Shared → Prop} {E : Value → Shared → Prop} {A : Around} {b : Bs}
theorem ostN (T : OexB X.K C b) (I : Inv X pins σ H s) (e : H a = some (exo a C none)) (no : PySem.W.findIn X.K (.ref C) f = some none) (ry : RelV y u)
    (h : ∀ dx s', H dx = none → dx ≠ a → Inv X pins σ (upd (upd H dx (exd dx [(f, y)])) a (exo a C (some dx))) s' → Q () s') : wpAny (model X.prog X.w) A (setAttr (.ref a) f u) Q E s := by
  obtain ⟨cd, hcl, hm, hd⟩ := T.cd
  obtain ⟨t1, ho⟩ := exo_at I.hok e
  obtain ⟨hp, gs, dr, tn, osn⟩ := s
  refine PySem.W.set_plain I.kIn (ox := ndo C #[.ref t1, .none, .none, .none, .bool false, .none]) (od := none) ⟨ho, rfl, rfl, trivial⟩ T.sa ?_
  refine osaN I.kIn ho hcl hm hd no (fun h1 t' dx kp dn dne hx hn => ?_)
  have fr : H dx = none := I.hok.fresh dn
  have n1 : ∀ {c : Addr} {o : Obj}, hp.get? c = some o → c ≠ dx := fun {c o} q => Nat.ne_of_lt (Nat.lt_of_lt_of_le (Heap.lt_size q) dn)
  have n2 : ∀ {c : Addr}, H c = none → c ≠ a := fun {c} n z => by
    rw [z, e] at n; cases n
  have U : Un X.fs [] H (upd (upd H dx (exd dx [(f, y)])) a (exo a C (some dx))) hp h1 := {
    keep := fun c o q n _ _ => kp c o (n2 n) q
    slot := fun c o q n _ _ => ⟨o.slots, kp c o (n2 n) q⟩
    free := fun c o q n _ => by rw [upd_ne (n2 n), upd_ne (n1 q)]; exact n
    there := fun c o q _ => by
      by_cases hc : c = a
      · exact ⟨_, by rw [hc]; exact hx⟩
      · exact ⟨o, kp c o hc q⟩
    tups := fun c xs q => by rw [upd_ne (at_ne e q exo_tup), upd_ne (L2.ne_of_none q fr)]; exact q
    frzs := fun c o z q => by rw [upd_ne (at_ne e q exo_frz), upd_ne (L2.ne_of_none q fr)]; exact q
    tbls := fun c ps q => ⟨#[], by rw [upd_ne (at_ne e q exo_tbl), upd_ne (L2.ne_of_none q fr), q]; simp⟩ }
  refine h dx _ fr dne (I.un (t' := t') U fun c o q => ?_)
  by_cases hc : c = a
  · subst hc
    rw [upd_same] at q; cases q
    exact exo_ok hx
  · rw [upd_ne hc] at q
    by_cases hd : c = dx
    · subst hd
      rw [upd_same] at q; cases q
      exact exd_ok hn (relO_put (fs := []) ry fun g => True.intro)
    · rw [upd_ne hd] at q
      refine (I.hok c o q).stay (fun i z hi r => kp i z ?_ r) (fun i hi => ?_) (fun i xs hi => ?_)
      · rcases hi with hi | hi
        · rw [hi]; exact hc
        · exact at_ne e hi exo_own
      · rw [upd_ne (at_ne e hi exo_own), upd_ne (L2.ne_of_none hi fr)]; exact hi
      · rw [upd_ne (at_ne e hi exo_tup), upd_ne (L2.ne_of_none hi fr)]; exact hi
theorem ostO (T : OexB X.K C b) (I : Inv X pins σ H s) (e : H a = some (exo a C (some dx))) (ed : H dx = some (exd dx fs)) (hl : fs.length ≤ 900) (no : PySem.W.findIn X.K (.ref C) f = some none) (ry : RelV y u)
    (h : ∀ s', Inv X pins σ (upd H dx (exd dx ((f, y) :: fs))) s' → Q () s') : wpAny (model X.prog X.w) A (setAttr (.ref a) f u) Q E s := by
  obtain ⟨cd, hcl, hm, hd⟩ := T.cd
  obtain ⟨t1, ho⟩ := exo_at I.hok e
  obtain ⟨mA, hns, rel⟩ := exd_at I.hok ed
  obtain ⟨hp, gs, dr, tn, osn⟩ := s
  obtain ⟨oD, _, _, hoD, _, _⟩ := hns.count (within_of rel)
  refine PySem.W.set_plain I.kIn (ox := wdo C dx #[.ref t1, .none, .none, .none, .bool false, .none]) (od := some oD) ⟨ho, rfl, rfl, hoD⟩ T.sa ?_
  refine osaO I.kIn ho hns (within_of rel) (by rw [List.length_map]; omega) hcl hm hd no (fun h1 t' kp hn => ?_)
  have ex : ∃ o, h1.get? dx = some o := let ⟨o, _, _, e', _⟩ := hn; ⟨o, e'⟩
  exact h _ (I.write (t' := t') (x := dx) (e := dx) (o := exd dx ((f, y) :: fs)) (by rw [ed]; exact True.intro) (.inl rfl) kp ex (exd_ok hn (relO_put ry rel)))
/-- the built-in __init__(self, ..): nothing of it is told -/
theorem oinitB {us : List Value} {Q : Value → Shared → Prop} (T : OexB X.K C b) (I : Inv X pins σ H s) (e : H a = some (exo a C none)) (hl : us.length ≤ sizeLine) (h : ∀ s', Inv X pins σ H s' → Q .none s') :
    wpAny (model X.prog X.w) A (call (.builtin b.ini) (.ref a :: us)) Q E s := by
  obtain ⟨nm, q, N, bs, bm, sn, sub, ab, col, dd, k0, k1, k2, k3, k5, hC, hbm⟩ := T.cls
  obtain ⟨t1, ho⟩ := exo_at I.hok e
  obtain ⟨hp, gs, dr, tn, osn⟩ := s
  refine wpAny_call (PySem.HandSPX.init_base b.base hbm.has (I.kIn _ _ hC) ho hl fun h1 t2 kp hx => ?_)
  have J := I.write (t' := tn) (x := a) (e := a) (o := exo a C none) (by rw [e]; exact True.intro) (.inl rfl) kp ⟨_, hx⟩ (exo_ok hx)
  have eu : upd H a (exo a C none) = H := by
    funext c
    by_cases hc : c = a
    · rw [hc, upd_same, e]
    · rw [upd_ne hc]
  rw [eu] at J
  exact h _ J
end
/-- B.__init__(self, ..), B the built-in class -/
def tBiI (K : PySem.W.Frag) (b : Bs) (ta : TA) : TE := fun σ H Q => ta σ H fun vs H1 => ∃ (a C : Addr) (ws : List V), vs = .ref a :: ws ∧ ws.length ≤ 1000 ∧ OexB K C b ∧ H1 a = some (exo a C none) ∧ Q .non H1
/-- self.f = e -/
def tOsb (K : PySem.W.Frag) (b : Bs) (f : Str) (to te : TE) : TS := fun D σ H => te σ H fun y H1 => to σ H1 fun x H2 => ∃ a C : Addr, x = .ref a ∧ OexB K C b ∧ PySem.W.findIn K (.ref C) f = some none ∧
  ((H2 a = some (exo a C none) ∧ ∀ dx, H2 dx = none → dx ≠ a → D.nx σ (upd (upd H2 dx (exd dx [(f, y)])) a (exo a C (some dx)))) ∨
    ∃ (dx : Addr) (fs : List (Str × V)), H2 a = some (exo a C (some dx)) ∧ H2 dx = some (exd dx fs) ∧ fs.length ≤ 900 ∧ D.nx σ (upd H2 dx (exd dx ((f, y) :: fs))))
section
variable {X : Cx} {o e : Expr} {es : List Expr} {to te : TE} {ta : TA} {f : Str} {p p' p1 p2 pos : Pos} {b : Bs}
/-- the built-in class's own __init__, found -/
def Bs.Finds (b : Bs) (K : PySem.W.Frag) : Prop := PySem.W.findCls K (.type b.nm) (.type "type") "__init__" = some (.val (.builtin b.ini))
theorem pe_viinit {pl : Sem Bool} (hg : Gl X "ValueError") (hm : X.mg "ValueError" = none) (vV : Bs.ve.Finds X.K) (ha : PA X (e :: es) ta)
    (hc : eval (.Call (.Attribute (.Name "ValueError" p1) "__init__" p2) (e :: es) [] pos) X.env = (do
      let ov ← eval (.Name "ValueError" p1) X.env
      standAt p2.atName
      let (f, first) ← holding [ov] (getMethod ov "__init__" pl)
      callWith pos f first (backTo pos (starEach (e :: es) X.env)) (backToKw pos (keywordEach [] X.env))) := by rfl)
    (he : starEach (e :: es) X.env = (false, eval e X.env) :: starEach es X.env := by rfl) (hpl : (backTo pos (starEach es X.env)).any (·.1) = false := by rfl) :
    PE X (.Call (.Attribute (.Name "ValueError" p1) "__init__" p2) (e :: es) [] pos) (tBiI X.K .ve ta) := by
  refine ⟨fun pins s σ H Q I h => ?_⟩
  refine PySem.W.methodCall_KW (ld_blt I hg hm PyProof.Rows.Boot.«ValueError» ?_ (by decide) (by decide)) hc
  obtain ⟨m, fr⟩ := I.fr
  refine PySem.W.method_type fr I.ok.mod.kin (Bs.typ .ve) (by decide +kernel) vV (by decide +kernel) ?_
  show wpAny _ _ (callWith pos (Value.builtin "ValueError.__init__") [] (backTo pos (starEach (e :: es) X.env)) []) _ _ _
  refine PyProof.Rows.callWith_method1 (thn (ha.run pos pins _ σ H _ (I.tok _) h) fun us s1 ⟨vs, H1, I1, r1, a, C, ws, ev, hl, T, ea, q⟩ => ?_) he hpl
  subst ev
  cases r1 with
  | @cons _ u0 _ ur ra rw' =>
    obtain rfl : u0 = Value.ref a := ra
    exact oinitB T I1 ea (by rw [← Paired.length rw', sizeLine_eq]; omega) fun s' J => ⟨.non, H1, J, rfl, q⟩
theorem ps_osb (ho : PE X o to) (he : PE X e te) (hs : swapsWith e (some (.Attribute o f p')) pos.line X.env = pure false := by rfl) : PS X (.Assign [.Attribute o f p'] e pos) (tOsb X.K b f to te) := by
  refine ⟨fun pins s σ H D I h => ?_⟩
  refine plainObj_wpAny_Assign_Attribute (thn (he.run pins s σ H _ I h) fun v s1 ⟨y, H1, I1, r1, q1⟩ => thn (ho.run pins s1 σ H1 _ I1 q1) fun u s2 ⟨x, H2, I2, r2, a, C, ex, T, no, q⟩ => ?_) hs
  subst ex
  obtain rfl : u = Value.ref a := r2
  rcases q with ⟨ea, q⟩ | ⟨dx, fs, ea, ed, hl, q⟩
  · exact ostN T I2 ea no r1 fun dx s' n ne J => ⟨σ, _, J, q dx n ne⟩
  · exact ostO T I2 ea ed hl no r1 fun s' J => ⟨σ, _, J, q⟩
end
end L3
set_option Elab.async false
set_option linter.all false
set_option maxRecDepth 100000
set_option maxHeartbeats 2000000
namespace L3
open PySem PySem.Spec PyProof.Rows L2 ClX
section
variable {X : Cx} {CX : CXT} {x : Str} {e : Expr} {es : List Expr} {t : TA} {p1 p2 pos : Pos} {C f : Addr} {mc : Value} {k : Nat} {fd : FuncData} {ps : List Str} {sp : Sp} {E : XK}
/-- C.__init__(self, ..) -/
theorem pe_clsInit {pl : Sem Bool} (hg : Gl X x) (hm : X.mg x = some (.ref C)) (r : CRead X.K C mc) (c : CVal X.K C mc "__init__" (.ref f) (.ref f)) (kf : PySem.W.keepIn X.K (.ref f) = true) (F : FnOk X.prog X.w X.K X.mg X.base CX k f fd ps sp) (hr : Room k X.A) (hb : Binds X.K fd ps []) (hx : Passes CX X E) (ha : PA X (e :: es) t)
    (hc : eval (.Call (.Attribute (.Name x p1) "__init__" p2) (e :: es) [] pos) X.env = (do
      let ov ← eval (.Name x p1) X.env
      standAt p2.atName
      let (f, first) ← holding [ov] (getMethod ov "__init__" pl)
      callWith pos f first (backTo pos (starEach (e :: es) X.env)) (backToKw pos (keywordEach [] X.env))) := by rfl)
    (he : starEach (e :: es) X.env = (false, eval e X.env) :: starEach es X.env := by rfl) (hpl : (backTo pos (starEach es X.env)).any (·.1) = false := by rfl) (hdb : (x == ("__debug__" : Str)) = false := by decide) :
    PE X (.Call (.Attribute (.Name x p1) "__init__" p2) (e :: es) [] pos) (tCall sp [] E t) := by
  refine ⟨fun pins s σ H Q I h => ?_⟩
  refine PySem.W.methodCall_KW (ld_glob I hg hm ?_ hdb) hc
  refine PySem.W.method_cls I.kIn r.ga (getcval_ok I r c fun s1 I1 => ?_)
  refine PySem.W.callWith_K (first := []) (h₀ := X.base) I.ok.mod.kin kf (thn (ha.run pos pins s1 σ H _ I1 h) fun us s2 ⟨vs, H2, I2, r2, q2⟩ => ⟨I2.kIn, ?_⟩) he hpl
  exact run_fn F hr hb .nil hx I2 r2 q2
end
/-- InkError.__init__(self, word), Missing's -/
def spInk (K : PySem.W.Frag) (b : Bs) : Sp := fun vs H Q _ => ∃ a C w, vs = [.ref a, .str w] ∧ OexB K C b ∧ PySem.W.findIn K (.ref C) "word" = some none ∧ H a = some (exo a C none) ∧
  ∀ dx H2, H dx = none → dx ≠ a → H2 a = some (exo a C (some dx)) → H2 dx = some (exd dx [(("word" : Str), V.str w)]) → (∀ b, b ≠ a → b ≠ dx → H2 b = H b) → Q .non H2
/-- C.__init__(self, ..) of a class whose word is its name -/
def spBad (K : PySem.W.Frag) (nm : Str) (fs : List Str) : Sp := fun vs H Q _ => ∃ a ws, vs = .ref a :: ws ∧ ws.length = fs.length ∧ H a = some (exo a (He.ga K nm) none) ∧
  ∀ dx H2, H dx = none → dx ≠ a → H2 a = some (exo a (He.ga K nm) (some dx)) → H2 dx = some (exd dx (fs.zip ws ++ [(("word" : Str), V.str nm)])) → (∀ b, b ≠ a → b ≠ dx → H2 b = H b) → Q .non H2
structure BadC (K : PySem.W.Frag) (nm : Str) (fs : List Str) (b : Bs) : Prop where
  T : OexB K (He.ga K nm) b
  word : PySem.W.findIn K (.ref (He.ga K nm)) "word" = some none
  fs : ∀ f ∈ fs, PySem.W.findIn K (.ref (He.ga K nm)) f = some none
theorem ink_run {K : PySem.W.Frag} {b : Bs} {vs : List V} {H : Hp} {Q : VK} {E : XK} (h : spInk K b vs H Q E) :
    (tSeq (tDrop (tBiI K b (tCons (tVar 0) (tCons (tVar 1) tNil)))) (tOsb K b "word" (tVar 0) (tVar 1))) { nx := fun _ H' => Q .non H', rt := Q } (L2.start ["self", "word"] vs) H := by
  obtain ⟨a, C, w, rfl, T, no, e, q⟩ := h
  refine ⟨_, rfl, _, rfl, a, C, [.str w], rfl, (by show 1 ≤ 1000; omega), T, e, ?_⟩
  refine ⟨_, rfl, _, rfl, a, C, rfl, T, no, .inl ⟨e, fun dx n ne => q dx _ n ne upd_same ?_ fun b b1 b2 => ?_⟩⟩
  · rw [upd_ne ne, upd_same]
  · rw [upd_ne b1, upd_ne b2]
theorem bad1_run {K : PySem.W.Frag} {b : Bs} {nm f : Str} {vs : List V} {H : Hp} {Q : VK} {E : XK} (B : BadC K nm [f] b) (h : spBad K nm [f] vs H Q E) :
    (tSeq (tDrop (tCall (spInk K b) [] E0 (tCons (tVar 0) (tCons (tC (.str nm)) tNil)))) (tOsb K b f (tVar 0) (tVar 1))) { nx := fun _ H' => Q .non H', rt := Q } (L2.start ["self", f] vs) H := by
  obtain ⟨a, ws, rfl, hl, e, q⟩ := h
  obtain ⟨y, rfl⟩ : ∃ y, ws = [y] := List.length_eq_one_iff.mp hl
  refine ⟨_, rfl, a, _, nm, rfl, B.T, B.word, e, fun dx H2 n ne ea ed oth => ?_⟩
  refine ⟨_, rfl, _, rfl, a, _, rfl, B.T, B.fs f (List.mem_singleton_self _), .inr ⟨dx, _, ea, ed, (by show 1 ≤ 900; omega), q dx _ n ne ?_ upd_same fun b b1 b2 => ?_⟩⟩
  · rw [upd_ne (Ne.symm ne)]; exact ea
  · rw [upd_ne b2]; exact oth b b1 b2
def tBad (K : PySem.W.Frag) (nm : Str) (fs : List Str) (ta : TA) : L2.St → Hp → XK → Prop := fun σ H Q => ta σ H fun ws H1 => ws.length = fs.length ∧ ∀ d, H1 d = none → Q (.ref (He.ga K nm)) (some d) (upd H1 d (.xd (fs.zip ws ++ [(("word" : Str), V.str nm)])))
structure BadOk (P : Program) (w : World) (K : PySem.W.Frag) (mg : Str → Option Value) (base : Heap) (k : Nat) (nm : Str) (fs : List Str) : Prop where
  c : ∃ b, BadC K nm fs b
  gl : mg nm = some (.ref (He.ga K nm))
  ex : ∃ fI fd ps, PySem.W.findIn K (.ref (He.ga K nm)) "__init__" = some (some (.ref fI)) ∧ PySem.W.typeIn K (.ref fI) = some (.type "function") ∧ FnOk P w K mg base (L2N.CX P w) k fI fd ps (spBad K nm fs) ∧ Binds K fd ps []
theorem BadOk.mono {P : Program} {w : World} {K : PySem.W.Frag} {mg : Str → Option Value} {base : Heap} {j k : Nat} {nm : Str} {fs : List Str} (b : BadOk P w K mg base j nm fs) (h : j ≤ k) : BadOk P w K mg base k nm fs :=
  ⟨b.c, b.gl, let ⟨fI, fd, ps, a1, a2, F, a3⟩ := b.ex; ⟨fI, fd, ps, a1, a2, F.mono h, a3⟩⟩
section
variable {X : Cx} {nm : Str} {fs : List Str} {e : Expr} {es : List Expr} {ta : TA} {p pos : Pos} {k : Nat}
/-- C(ws), ws at hand -/
theorem mk_bad {pins : List (Addr × Obj)} {σ : L2.St} {H1 : Hp} {Q : XK} {s1 : Shared} {us : List Value} {ws : List V} (B : BadOk X.prog X.w X.K X.mg X.base k nm fs) (hr : Room (k + 1) X.A) (I1 : Inv X pins σ H1 s1) (r1 : Vals ws us) (hz : ws.length = fs.length) (few : fs.length ≤ 5)
    (q1 : ∀ d, H1 d = none → Q (.ref (He.ga X.K nm)) (some d) (upd H1 d (.xd (fs.zip ws ++ [(("word" : Str), V.str nm)])))) : wpAny (model X.prog X.w) X.A (call (.ref (He.ga X.K nm)) us) (L2N.MkP X pins σ Q) X.xe s1 := by
  obtain ⟨fI, fd, ps, iC, tI, F1, hb⟩ := B.ex
  obtain ⟨bb, Bc⟩ := B.c
  obtain ⟨cn, cq, N, bs, bm, sn, sub, ab, col, dd, k0, k1, k2, k3, k5, hC, hbm⟩ := Bc.T.cls
  obtain ⟨hp, g, dr, tk, os⟩ := s1
  generalize hCe : He.ga X.K nm = C at *
  have fr : H1 (hp.objs.size + 1) = none := I1.hok.fresh (Nat.le_succ _)
  have kk : ∀ b o, hp.get? b = some o → ((hp.push (PySem.W.kdv_tup us)).push (PySem.HandSPX.excO C hp.objs.size)).get? b = some o := fun b o z => Heap.get?_push_of_some _ (Heap.get?_push_of_some _ z)
  have at1 : ((hp.push (PySem.W.kdv_tup us)).push (PySem.HandSPX.excO C hp.objs.size)).get? (hp.objs.size + 1) = some (PySem.HandSPX.excO C hp.objs.size) := by heap_get
  have I2 := I1.laid (t' := tk) (a := hp.objs.size + 1) (o := exo (hp.objs.size + 1) C none) (h' := (hp.push (PySem.W.kdv_tup us)).push (PySem.HandSPX.excO C hp.objs.size)) kk (Nat.le_succ _) (exo_ok at1)
  have r2 : Vals (V.ref (hp.objs.size + 1) :: ws) (Value.ref (hp.objs.size + 1) :: us) := .cons rfl r1
  have hw : us.length ≤ sizeLine := by rw [← Paired.length r1, sizeLine_eq]; omega
  have e2 : upd H1 (hp.objs.size + 1) (exo (hp.objs.size + 1) C none) (hp.objs.size + 1) = some (exo (hp.objs.size + 1) C none) := upd_same
  have hq : spBad X.K nm fs (V.ref (hp.objs.size + 1) :: ws) (upd H1 (hp.objs.size + 1) (exo (hp.objs.size + 1) C none)) (fun v H2 => v = .non ∧ ∃ d, H1 d = none ∧ d ≠ hp.objs.size + 1 ∧ H2 (hp.objs.size + 1) = some (exo (hp.objs.size + 1) C (some d)) ∧ H2 d = some (exd d (fs.zip ws ++ [(("word" : Str), V.str nm)])) ∧ ∀ b, b ≠ hp.objs.size + 1 → b ≠ d → H2 b = H1 b) E0 := by
    refine ⟨hp.objs.size + 1, ws, rfl, hz, by rw [hCe]; exact e2, fun dx H2 n ne ea ed oth => ⟨rfl, dx, ?_, ne, by rw [hCe] at ea; exact ea, ed, fun b b1 b2 => ?_⟩⟩
    · rw [upd_ne ne] at n; exact n
    · rw [oth b b1 b2, upd_ne b1]
  have hl : ((Value.ref (hp.objs.size + 1) :: us) ++ []).length = ps.length := by
    rw [List.append_nil, ← r2.length]; exact F1.len _ _ _ _ hq
  have b2 := hb _ (Value.ref (hp.objs.size + 1) :: us) I2.kIn hl
  rw [List.append_nil] at b2
  refine wpAny_call (PySem.HandSPX.call_own bb.base hbm.has (I1.kIn _ _ hC) (PySem.W.looks_findIn I1.kIn iC) (fun self => PySem.W.bind_fn I1.kIn self tI) hw
    (codeAny_mono (F1.run _ X.stack _ _ ⟨Value.ref (hp.objs.size + 1) :: us, []⟩ _ _ _ E0 (hr.make C us []) (I2.env0.make C us []) b2 r2 hq) fun r s2 hq2 => ?_))
  cases r with
  | error er => exact passE0 pins σ _ _ er s2 I2 hq2
  | ok fl =>
    cases fl with
    | next => exact False.elim hq2
    | brk => exact False.elim hq2
    | cont => exact False.elim hq2
    | ret u =>
      obtain ⟨v, H2, os2, bare2, un2, hok2, rv, ev, d, hd1, dne, ea, ed, oth⟩ := hq2
      subst ev
      obtain ⟨h2, g2, d2, t2, os'⟩ := s2
      obtain ⟨t0, G, J, kG, ge, hoe, na⟩ := mk_end0 (d2 := d2) (t2 := t2) I1 (Nat.le_succ _) kk un2 hok2 os2 bare2 ea ed hd1
      have eH : upd (del H2 (hp.objs.size + 1)) d (.xd (fs.zip ws ++ [(("word" : Str), V.str nm)])) = upd H1 d (.xd (fs.zip ws ++ [(("word" : Str), V.str nm)])) := by
        funext b
        by_cases hbd : b = d
        · rw [hbd, upd_same, upd_same]
        · rw [upd_ne hbd, upd_ne hbd]
          by_cases hba : b = hp.objs.size + 1
          · rw [hba, del_same, fr]
          · rw [del_ne hba, oth b hba hbd]
      rw [eH] at J na
      exact ⟨rv, hp.objs.size + 1, _, _, ⟨G, g2, d2, t2, os'⟩, _, .ref C, some d, rfl, J, kG, ge, hoe, ⟨rfl, rfl, fun vs hv => by cases hv; rfl⟩, rfl, rfl, na, rfl, bare2, raises_own (by rw [← hCe]; exact Bc.T.exC) (by rw [← hCe]; exact Bc.T.tyC), q1 d hd1⟩
theorem pmk_bad (B : BadOk X.prog X.w X.K X.mg X.base k nm fs) (hr : Room (k + 1) X.A) (few : fs.length ≤ 5) (ha : PA X (e :: es) ta) (hg : Gl X nm := by rfl)
    (hdb : (nm == ("__debug__" : Str)) = false := by decide) (he : starEach (e :: es) X.env = (false, eval e X.env) :: starEach es X.env := by rfl) (hpl : (backTo pos (starEach es X.env)).any (·.1) = false := by rfl) :
    L2N.PMk X (.Call (.Name nm p) (e :: es) [] pos) (tBad X.K nm fs ta) := by
  intro pins s σ H Q I h
  refine wpAny_Call_Name_kw (ld_glob I hg B.gl (PySem.W.callWith_K (h₀ := X.base) I.ok.mod.kin (let ⟨_, c⟩ := B.c; c.T.kC) (thn (ha.run pos pins s σ H _ I h) fun us s1 ⟨vs, H1, I1, r1, hz, q1⟩ => ⟨I1.kIn, ?_⟩) he hpl) hdb)
  exact mk_bad B hr I1 r1 hz few q1
def xRaise (nm : Str) (fs : List Str) (t : DA) : DSX := fun D E env M => t env M fun ds M1 => E nm (fs ++ [("word" : Str)]) (ds ++ [.str nm]) M1
theorem zip_app {α β : Type} : ∀ {as : List α} {bs : List β} {x : α} {y : β}, as.length = bs.length → (as ++ [x]).zip (bs ++ [y]) = as.zip bs ++ [(x, y)]
  | [], [], _, _, _ => rfl
  | [], b :: bs, _, _, h => by simp at h
  | a :: as, [], _, _, h => by simp at h
  | a :: as, b :: bs, x, y, h => by
    show (a, b) :: (as ++ [x]).zip (bs ++ [y]) = (a, b) :: (as.zip bs ++ [(x, y)])
    rw [zip_app (by simpa using h)]
theorem raise_up {K : PySem.W.Frag} {R F F1 : Hp} {M1 : Mp} {H1 : Hp} {E : XK} {Ed : DX} {nm : Str} {fs : List Str} {ds : List D} {ws : List V} (hs : SOk nm) (s1 : Same F F1) (a1 : At K R F1 M1 H1) (r1 : Reps K F1 ds ws) (hl : ds.length = fs.length) (q : Ed nm (fs ++ [("word" : Str)]) (ds ++ [.str nm]) M1) (kx : KX K R F Ed E) :
    ws.length = fs.length ∧ ∀ d, H1 d = none → E (.ref (He.ga K nm)) (some d) (upd H1 d (.xd (fs.zip ws ++ [(("word" : Str), V.str nm)]))) := by
  have hw : ws.length = fs.length := by rw [← r1.length, hl]
  refine ⟨hw, fun d hd => ?_⟩
  obtain ⟨a2, s2⟩ := a1.laid hd (.xd (fs.zip ws ++ [(("word" : Str), V.str nm)]))
  refine kx _ _ M1 nm d (fs ++ [("word" : Str)]) (ds ++ [.str nm]) (ws ++ [.str nm]) (s1.trans s2) a2 ?_ (by rw [List.length_append, List.length_append, hl]; rfl) ((r1.mono s2).append (Reps.one (d := .str nm) (v := .str nm) ⟨rfl, hs⟩)) q
  rw [upd_same, zip_app hw.symm]
theorem psx_raise {cpos : Pos} {E : XK} {t : DA} (tk : TakeX X E) (B : BadOk X.prog X.w X.K X.mg X.base k nm fs) (hr : Room (k + 1) X.A) (few : fs.length ≤ 5) (hf : fs.length = (e :: es).length) (ha : PDA X.nox (e :: es) t) (hs : SOk nm := by decide +kernel) (hc : X.calm = true := by rfl) (hg : Gl X nm := by rfl)
    (hdb : (nm == ("__debug__" : Str)) = false := by decide) (he : starEach (e :: es) X.env = (false, eval e X.env) :: starEach es X.env := by rfl) (hpl : (backTo cpos (starEach es X.env)).any (·.1) = false := by rfl) :
    PDSX X E (.Raise (some (.Call (.Name nm p) (e :: es) [] cpos)) none pos) (xRaise nm fs t) :=
  ps_imp (L2N.ps_raise hc tk (pmk_bad B hr few (pa_nox ha) hg hdb he hpl)) fun D σ H ⟨R, F, env, M, Dd, Ed, a, en, h, kk, kx⟩ => ⟨R, F, env, M, _, a, en, h, fun F1 H1 M1 ds ws s1 a1 r1 l1 q1 => raise_up hs s1 a1 r1 (l1.trans hf.symm) q1 kx⟩
end
end L3
set_option Elab.async false
set_option linter.all false
set_option maxRecDepth 100000
set_option maxHeartbeats 2000000
namespace L3
open PySem PySem.Spec PyProof.Rows L2 HotX
section
variable {prog : Program} {w : World} {A : Around} {E : Value → Shared → Prop} {s : Shared}
theorem nextEndHot {it t x1 : Addr} {i : Nat} {items : Array Value} {Q : Option Value → Shared → Prop} (hot : HotAt A x1 s.heap) (ne : x1 ≠ it) (hit : IsTupIter s.heap it t i) (ht : IsTup s.heap t items) (hx : items[i]? = none)
    (hQ : ∀ h', Heap.ExtBut it s.heap h' → Q none { s with heap := h' }) : wpAny (model prog w) A (pyNext (.ref it)) Q E s := by
  obtain ⟨oI, hoI, hcI, hdI⟩ := id hit
  obtain ⟨oT, hoT, _, nT, hdT⟩ := ht
  obtain ⟨hh, o1, vs1, e1, d1, c1⟩ := hot
  have sl := slot_tupleiter_next
  unfold pyNext
  refine wpAny_bind (wpAny_attempt (wpAny_callSpecial?_slot (name := Str.ofString "__next__") hit.typeIs sl (wpAny_call_entry sl hit.typeIs entry_tupleiter_next ?_ (args_tupleiter_next _))))
  (show wpAny _ _ (field (.ref it) 0 >>= _) _ _ s); refine wpAny_bind (wpAny_field hoI hdI (x := .ref t) rfl ?_)
  have nn : ¬ ((Value.ref t == Value.none) = true) := Bool.false_ne_true
  (show wpAny _ _ (if (Value.ref t == Value.none) = true then _ else _) _ _ s); rw [if_neg nn]
  (show wpAny _ _ (field (.ref it) 1 >>= _) _ _ s); refine wpAny_bind (wpAny_field hoI hdI (x := .int i 0) rfl ?_)
  (show wpAny _ _ (seqItems? (.ref t) >>= _) _ _ s); refine wpAny_bind (wpAny_seqItems hoT hdT ?_)
  simp only [Int.toNat_natCast, hx]
  refine wpAny_bind (wpAny_rule (wpAny_bind (wpAny_setField hoI hdI (by simp) ?_)))
  have k1 : (s.heap.update it (Obj.mapFields (·.setIfInBounds 0 Value.none))).get? x1 = some o1 := by rw [Heap.get?_update_other _ _ (Ne.symm ne)]; exact e1
  generalize hU : s.heap.update it (Obj.mapFields (·.setIfInBounds 0 Value.none)) = hu at k1
  have eU : Heap.ExtBut it s.heap hu := by rw [← hU]; exact (Heap.SameBut.update ..).extBut
  (show wpAny _ _ (newExc (.type "StopIteration") [] >>= _) _ _ _); refine wpAny_bind ?_
  simp only [newExc, newTuple]; refine wpAny_bind (wpAny_newObj_type ?_ (by size_fits))
  refine wpAny_bind (m := firstArgMember _ _) (wpAny_of_eq (a := Value.none) (by first | rfl | (simp only [firstArgMember]; rfl)) (wpAny_newObj_type ?_ (by size_fits)))
  refine raiseNew_hot ⟨hh, o1, vs1, Heap.get?_push_of_some _ (Heap.get?_push_of_some _ k1), d1, c1⟩ (Nat.ne_of_lt (Heap.lt_size (Heap.get?_push_of_some _ k1))) (Heap.get?_push_size _ rfl) rfl (by first | (simp; done) | (simp; omega) | (simp only [Array.size_append]; simp; omega)) ?_
  refine wpAny_bind (wpAny_isInstance (T := "StopIteration") (b := true) ⟨_, Heap.get?_update_self _ (Heap.get?_push_size _ rfl) rfl, rfl⟩ isSubtype_stop (wpAny_pure (hQ _ fun b o hb e => ?_)))
  have e2 := eU b o hb e
  rw [Heap.get?_update_other _ _ (Nat.ne_of_gt (Heap.lt_size (Heap.get?_push_of_some _ e2)))]
  exact Heap.get?_push_of_some _ (Heap.get?_push_of_some _ e2)
theorem unpackHot {t x1 : Addr} {items : Array Value} {Q : List Value → Shared → Prop} (hot : HotAt A x1 s.heap) (ht : IsTup s.heap t items)
    (hQ : ∀ h', Heap.ExtBut s.heap.objs.size s.heap h' → Q items.toList { s with heap := h' }) : wpAny (model prog w) A (unpackItems (.ref t) items.size none) Q E s := by
  obtain ⟨hh, o1, vs1, e1, d1, c1⟩ := hot
  have lt : t ≠ s.heap.objs.size := let ⟨o, ho, _⟩ := ht; Nat.ne_of_lt (Heap.lt_size ho)
  have lx : x1 ≠ s.heap.objs.size := Nat.ne_of_lt (Heap.lt_size e1)
  unfold unpackItems
  refine wpAny_bind ?_
  unfold notIterableAtAll
  refine wpAny_bind (wpAny_specialOf ht.typeIs slot_tuple_iter.lookup (wpAny_pure ?_))
  simp only [Bool.false_eq_true, if_false]; refine wpAny_bind (wpAny_holding (iter_tuple ht ?_))
  refine wpAny_bind (wpAny_holding (draw_tuple lt items.size 0 _ _ ⟨_, Heap.get?_push_size _ rfl, rfl, rfl⟩ (ht.push _) (by omega) fun h1 i1 sb1 => ?_))
  have all : List.take items.size (List.drop 0 items.toList) = items.toList := List.take_of_length_le (by simp)
  rw [all, if_neg (by simp)]
  have x1' : h1.get? x1 = some o1 := sb1.extBut _ _ lx (Heap.get?_push_of_some _ e1)
  refine wpAny_bind (wpAny_holding (nextEndHot ⟨hh, o1, vs1, x1', d1, c1⟩ lx i1 ((ht.push _).extBut sb1.extBut lt) (by simp) fun h2 eb2 => ?_))
  simp only [Option.isSome_none, Bool.false_eq_true, if_false]; exact wpAny_pure (hQ h2 fun b o hb e => eb2 b o hb (sb1.extBut b o hb (Heap.get?_push_of_some _ e)))
end
theorem ps_parH {X : Cx} {i j : Nat} {x y : Str} {a b : Expr} {ta : TA} {px py pt pos : Pos} {kt k2 pt2} (hc : L2H.HotC X) (hN : X.N.Nodup) (hi : X.N[i]? = some x) (hj : X.N[j]? = some y) (hij : i ≠ j)
    (hx : X.env.scope.names.lookup x = some .local) (hy : X.env.scope.names.lookup y = some .local) (ha : PA X [a, b] ta)
    (hw : swappedStores [.Tuple [.Name x px, .Name y py] kt pt] (.Tuple [a, b] k2 pt2) X.env = pure (some [x, y]) := by rfl)
    (hs : swapsWithSole [.Tuple [.Name x px, .Name y py] kt pt] (.Tuple [a, b] k2 pt2) pos.line X.env = pure false := by rfl) : PS X (.Assign [.Tuple [.Name x px, .Name y py] kt pt] (.Tuple [a, b] k2 pt2) pos) (tPar i j ta) := by
  refine ⟨fun pins s σ H D I h => ?_⟩
  rw [exec_Assign_arm]; refine wpAny_bind (wpAny_standAt ?_)
  rw [hs]; refine wpAny_bind (wpAny_pure ?_)
  rw [if_neg (by decide)]; refine wpAny_bind (Tuple_ (thn (ha.run _ pins s σ H _ I h) fun us s1 ⟨vs, H1, I1, r1, v, w, ev, q1⟩ => ?_))
  subst ev
  have two : ∃ u1 u2, us = [u1, u2] ∧ RelV v u1 ∧ RelV w u2 := by
    cases r1 with
    | cons p q => cases q with
      | cons p' q' => cases q' with
        | nil => exact ⟨_, _, rfl, p, p'⟩
  obtain ⟨u1, u2, rfl, rv, rw2⟩ := two
  refine wpAny_newObj_type ?_ (by show 2 ≤ sizeLine; decide)
  have I2 : Inv X pins σ H1 { s1 with heap := s1.heap.push ({ cls := .type "tuple", data := .seq [u1, u2].toArray } : Obj) } := I1.kept (t' := s1.toks) (fun b o => Heap.get?_push_of_some _)
  rw [hw]; refine wpAny_bind (wpAny_pure ?_)
  (show wpAny (model X.prog X.w) X.A (do rule "assign.swapped-stores"; let items ← unpackItems (.ref s1.heap.objs.size) 2 none; assignInOrder [fun v => bindName X.env y v, fun v => bindName X.env x v] items.reverse; pure Flow.next) _ _ _)
  obtain ⟨x1, hot⟩ := hc.at I2
  refine wpAny_bind (wpAny_rule (wpAny_bind (unpackHot (items := #[u1, u2]) hot (IsTup.new s1.heap _) fun h3 eb => ?_)))
  have I3 := I2.kept (h' := h3) (t' := s1.toks) (fun b o e => eb b o (Nat.ne_of_lt (Heap.lt_size e)) e)
  (show wpAny _ _ (assignInOrder [fun v => bindName X.env y v, fun v => bindName X.env x v] [u2, u1] >>= fun _ => pure Flow.next) _ _ _)
  refine wpAny_bind (assignInOrder_cons (wpAny_bindName (store_ok I3 hN hj (.inl hy) rw2 (fun s4 I4 => assignInOrder_cons (wpAny_bindName (store_ok I4 hN hi (.inl hx) rv (fun s5 I5 => assignInOrder_nil (wpAny_pure ?_)) (.inr hx)))) (.inr hy))))
  rw [List.set_comm _ _ (Ne.symm hij)] at I5
  exact ⟨_, H1, I5, q1⟩
end L3
set_option Elab.async false
set_option linter.all false
set_option maxRecDepth 100000
set_option maxHeartbeats 2000000
namespace L3
open PySem PySem.Spec PyProof.Rows L2
/-- what a call of the lambda at f does, from any later state -/
structure Cal (P : Program) (w : World) (K : PySem.W.Frag) (mg : Str → Option Value) (base : Heap) (k : Nat) (q : Str) (f c : Addr) (tl : XK → Hp → VK → Prop) (fr : List Addr) (s : Shared) (H : Hp) : Prop where
  fn : ∀ (s1 : Shared) (HZ : Hp), Un fr [] H HZ s.heap s1.heap → PySem.W.FnAt f s1.heap
  run : ∀ (A : Around) (outer : List Env) (s1 : Shared) (HZ : Hp) (Q : VK) (E : XK), Room (k + 1) A → Env0 P w K mg base A outer s1 HZ → Un fr [] H HZ s.heap s1.heap → HZ c = some (LamX.CodeO c q) → tl E HZ Q →
    codeAny (model P w) A (.call (.ref f) ⟨[], []⟩) (CR (L2N.CX P w) outer P w HZ s1 Q E) s1
theorem un_glue {fr fr' : List Addr} {H H1 H2 : Hp} {h h1 h2 : Heap} (a : Un fr [] H H1 h h1) (b : Un fr' [] H1 H2 h1 h2) (sub : ∀ x ∈ fr, x ∈ fr') (new : ∀ x ∈ fr', x ∈ fr ∨ h.get? x = none) : Un fr [] H H2 h h2 := by
  have nin : ∀ x o, h.get? x = some o → x ∉ fr → x ∉ fr' := fun x o e n m => by
    rcases new x m with z | z
    · exact n z
    · rw [z] at e; cases e
  refine ⟨fun x o e n nf nx => b.keep x o (a.keep x o e n nf nx) (a.free x o e n nx) (nin x o e nf) nx, fun x o e n inf nx => ?_, fun x o e n nx => ?_, fun x o e nx => ?_, fun x xs e => b.tups x xs (a.tups x xs e), fun x o u e => b.frzs x o u (a.frzs x o u e), fun x ps e => ?_⟩
  · obtain ⟨sl, e1⟩ := a.slot x o e n inf nx
    obtain ⟨sl2, e2⟩ := b.slot x _ e1 (a.free x o e n nx) (sub x inf) nx
    exact ⟨sl2, e2⟩
  · obtain ⟨o', e1⟩ := a.there x o e nx
    exact b.free x o' e1 (a.free x o e n nx) nx
  · obtain ⟨o', e1⟩ := a.there x o e nx
    exact b.there x o' e1 nx
  · obtain ⟨m1, e1⟩ := a.tbls x ps e
    obtain ⟨m2, e2⟩ := b.tbls x _ e1
    exact ⟨m1 ++ m2, by rw [e2, Array.append_assoc]⟩
theorem Cal.step {P : Program} {w : World} {K : PySem.W.Frag} {mg : Str → Option Value} {base : Heap} {k : Nat} {q : Str} {f c : Addr} {tl : XK → Hp → VK → Prop} {fr fr' : List Addr} {s s2 : Shared} {H H2 : Hp} (C : Cal P w K mg base k q f c tl fr s H) (u : Un fr [] H H2 s.heap s2.heap) (sub : ∀ x ∈ fr, x ∈ fr') (new : ∀ x ∈ fr', x ∈ fr ∨ s.heap.get? x = none) :
    Cal P w K mg base k q f c tl fr' s2 H2 := ⟨fun s1 HZ un => C.fn s1 HZ (un_glue u un sub new), fun A outer s1 HZ Q E hr e0 un hc ht => C.run A outer s1 HZ Q E hr e0 (un_glue u un sub new) hc ht⟩
/-- .. into a def that is called from X -/
theorem Cal.call {X : Cx} {pins : List (Addr × Obj)} {σ : L2.St} {s : Shared} {H : Hp} {k : Nat} {q : Str} {f c : Addr} {tl : XK → Hp → VK → Prop} (C : Cal X.prog X.w X.K X.mg X.base k q f c tl X.fs X.s_0 X.H_0) (I : Inv X pins σ H s) (hx : X.ex = []) (hs : X.stack = X.env :: X.outer) : Cal X.prog X.w X.K X.mg X.base k q f c tl (frs X.stack) s H := by
  have u := I.base
  rw [hx] at u
  refine C.step u (fun x hm => ?_) fun x hm => ?_
  · rw [hs]
    obtain ⟨e, he, z⟩ := List.mem_filterMap.mp hm
    exact List.mem_filterMap.mpr ⟨e, List.mem_cons_of_mem _ he, z⟩
  · rcases List.mem_cons.mp (I.stkSub x hm) with z | z
    · refine .inr ?_
      cases e : X.s_0.heap.get? x with
      | none => rfl
      | some o =>
        have h1 := Heap.lt_size e
        have h2 := I.ok.above
        rw [z] at h1
        exact absurd (Nat.lt_of_lt_of_le h1 h2) (Nat.lt_irrefl _)
    · exact .inl z
/-- the context of a lambda's body -/
abbrev lamN (X : Cx) (A : Around) (outer : List Env) (s : Shared) (H : Hp) (E : XK) (scope : Scope) (f c : Addr) : Cx :=
  (LamX.lamCx X A outer s H E scope f c).wish fun e s' => wpAny (model X.prog X.w) (A.deeper (LamX.lamEnv X scope s.heap.objs.size f c)) (leaving (LamX.lamEnv X scope s.heap.objs.size f c) e) (fun _ s2 => L2N.CX X.prog X.w outer H s E e s2) (fun e2 s2 => L2N.CX X.prog X.w outer H s E e2 s2) s'
theorem takes_lam {X : Cx} {A : Around} {outer : List Env} {s : Shared} {H : Hp} {E : XK} {scope : Scope} {f c : Addr} : TakeX (lamN X A outer s H E scope f c) E := L2N.takes_of rfl rfl rfl rfl
theorem lam_cal {X : Cx} {pins : List (Addr × Obj)} {σ : L2.St} {H : Hp} {s : Shared} {f c : Addr} {pm ctv : Value} {params : Arguments} {body : Expr} {scope : Scope} {k : Nat} {tb : XK → TE} (I : Inv X pins σ H s) (L : LamX.LamS X.env.scope scope)
    (hf : s.heap.get? f = some (PySem.W.kla_obj "<lambda>" (X.env.qual ++ "<lambda>") params body scope (cloFrom X.env.cells scope.names []) pm c ctv)) (hfn : H f = none) (hfr : f ∉ frs X.stack)
    (hbind : bindArgs (PySem.W.kla_fn "<lambda>" (X.env.qual ++ "<lambda>") params body scope (cloFrom X.env.cells scope.names []) pm (.ref c) ctv) ⟨[], []⟩ = pure [])
    (hbody : ∀ (A : Around) (outer : List Env) (s1 : Shared) (H1 : Hp) (E : XK), Room k (A.deeper (LamX.lamEnv X scope s1.heap.objs.size f c)) → PE (lamN X A outer s1 H1 E scope f c) body (tb E)) :
    Cal X.prog X.w X.K X.mg X.base k (X.env.qual ++ "<lambda>") f c (fun E HZ Q => tb E σ HZ Q) (frs X.stack) s H := by
  refine ⟨fun s1 HZ un => ⟨_, _, _, _, un.keep f _ hf hfn hfr (by simp)⟩, ?_⟩
  intro A outer s1 HZ Q E hr e0 un hc ht
  have of1 := un.keep f _ hf hfn hfr (by simp)
  obtain ⟨⟨oc, vs, t, ho, hd, hv⟩, _, _⟩ := e0.hok c _ hc
  refine PySem.W.kla_callFunE hr.depth of1 rfl L.co L.gen rfl ⟨c, oc, vs, t, rfl, ho, hd, hv⟩ ?_
  rw [hbind]
  have lim : s1.heap.NoLimit := e0.mod.nolimit.keeps fun b o e => (e0.bs b o e).1
  refine wpAny_pure (wpAny_newFunctionEnv (fun y hy => (L.own y hy).2) (fun y hy => absurd hy (by simp)) (fun h2 ns sb => ⟨lim.fresh _ sb, ?_⟩) L.kind)
  have kp : ∀ b o, s1.heap.get? b = some o → h2.get? b = some o := fun b o e => sb.extBut b o (Nat.ne_of_lt (Heap.lt_size e)) (Heap.get?_push_of_some _ e)
  (show codeAny _ _ (.expr body (LamX.lamEnv X scope s1.heap.objs.size f c)) _ _)
  have J : Inv (LamX.lamCx X A outer s1 HZ E scope f c) [] σ HZ { s1 with heap := h2, toks := s1.toks + ([] : List (Str × Value)).length } := LamX.lam_start2 I L e0 hr.hd un ns kp
  have JN : Inv (lamN X A outer s1 HZ E scope f c) [] σ HZ { s1 with heap := h2, toks := s1.toks + ([] : List (Str × Value)).length } := J.wish _
  exact PySem.W.kla_codeExpr (wpAny_mono ((hbody A outer s1 HZ E (hr.deeper _)).run [] _ σ HZ Q JN ht) (fun v s' ⟨w', H', J', rv, q⟩ => ⟨w', H', J'.os, J'.bare, J'.base, J'.hok, rv, q⟩) fun e s' hq => hq)
/-- x(), where x is a lambda that was handed on -/
def tAsk (W : WX) (i : Nat) (f c : Addr) (q : Str) (tl : XK → Hp → VK → Prop) : TE := fun σ H Q => σ[i]? = some (some (.ref f)) ∧ H c = some (LamX.CodeO c q) ∧ ∃ E : XK, (∀ cls d H', E cls d H' → W cls d σ H') ∧ tl E H Q
theorem pe_ask {Z : Cx} {W : WX} {k i : Nat} {f c : Addr} {q a : Str} {tl : XK → Hp → VK → Prop} {p1 p2 : Pos} (C : Cal Z.prog Z.w Z.K Z.mg Z.base k q f c tl Z.fs Z.s_0 Z.H_0) (hx : Z.ex = []) (tk : L2N.Takes Z W) (hr : Room (k + 1) Z.A)
    (hN : Z.N[i]? = some a) (hv : Vis Z.env.scope a) (hd : (a == ("__debug__" : Str)) = false := by decide) (hcd : (a == ("__classdict__" : Str)) = false := by decide) : PE Z (.Call (.Name a p1) [] [] p2) (tAsk W i f c q tl) := by
  refine ⟨fun pins s σ H Q I ⟨h0, hc, E, hW, ht⟩ => ?_⟩
  refine wpAny_Call_Name_kw (thn ((pe_var (pos := p1) (i := i) hN hv hd hcd).run pins s σ H (fun v H1 => v = .ref f ∧ H1 = H) I ⟨.ref f, h0, rfl, rfl⟩) fun u s1 ⟨v, H1, I1, r1, ev, eH⟩ => ?_)
  subst ev
  rw [eH] at I1
  obtain rfl : u = Value.ref f := r1
  have u1 := I1.base
  rw [hx] at u1
  refine PySem.W.callWith_F0 (C.fn s1 H u1) (wpAny_call (codeAny_mono (C.run Z.A Z.stack s1 H Q E hr I1.env0 u1 hc ht) fun r s' hq => ?_))
  cases r with
  | error e => exact tk e s' (L2N.XE.of_call I1 (fun cls d H' h => hW cls d H' h) hq)
  | ok fl =>
    cases fl with
    | ret u => exact I1.after hq
    | next => exact False.elim hq
    | brk => exact False.elim hq
    | cont => exact False.elim hq
end L3
set_option Elab.async false
set_option linter.all false
set_option maxRecDepth 100000
set_option maxHeartbeats 2000000
namespace L3
open PySem PySem.Spec PyProof.Rows L2
abbrev eNx (f : L2.St → Hp → Prop) : Ends := { nx := f, rt := fun _ _ => False, bk := fun _ _ => False, ct := fun _ _ => False }
/-- what the clause wishes of an exception: slot i is its name's -/
def wTup (K : PySem.W.Frag) (cs : List Value) (i : Nat) (ts : Addr → Value → Option Addr → TS) (nx : L2.St → Hp → Prop) : WX := fun cls d σ H =>
  PySem.W.exmAny K cls cs = some true ∧ ∀ a, H a = none → ts a cls d (eNx fun σ' H' => nx (σ'.set i none) H') (σ.set i (some (.ref a))) H
def tTry3 (K : PySem.W.Frag) (cs : List Value) (i : Nat) (tb : WX → TS) (ts : Addr → Value → Option Addr → TS) : TS := fun D σ H => tb (wTup K cs i ts D.nx) (eNx D.nx) σ H
section
variable {X : Cx} {x1 x2 x3 n : Str} {c1 c2 c3 : Value} {i kk : Nat} {body suite : List Stmt} {b₀ : Stmt} {p1 p2 p3 tp pos pos' : Pos} {tb : WX → TS} {ts : Addr → Value → Option Addr → TS}
theorem look_name {Y : Cx} {pins : List (Addr × Obj)} {σ : L2.St} {H : Hp} {s : Shared} {x : Str} {c : Value} {p : Pos} {Q E : Value → Shared → Prop} (I : Inv Y pins σ H s) (hc : Names Y x c) (q : Q c s) : wpAny (model Y.prog Y.w) Y.A (eval (.Name x p) Y.env) Q E s := by
  obtain ⟨g, dbg, m | ⟨m, v, nn⟩⟩ := hc
  · exact ld_glob I g m q dbg
  · exact ld_blt I g m v q nn dbg
theorem ps_try_tup (hs : X.stack = X.env :: X.outer) (hf : X.env.frame = some X.env.locals) (hN : X.N.Nodup) (hi : X.N[i]? = some n) (hln : X.env.kindOf n = some .local) (n1 : Names X x1 c1) (n2 : Names X x2 c2) (n3 : Names X x3 c3)
    (hb : ∀ (W : WX) (pn : List (Addr × Obj)) (xe : Value → Shared → Prop), L2N.Takes (X.tr pn xe) W → PSs (X.tr pn xe) body (tb W))
    (hsu : ∀ (a : Addr) (oe : Obj) (cls : Value) (d : Option Addr) (pn : List (Addr × Obj)), L2N.Zn cls d oe → (∃ vs, oe.data = .fields vs) → PSs (X.suite a ((a, oe) :: pn)) (b₀ :: suite) (ts a cls d)) :
    PS X (.Try body [.ExceptHandler (some (.Tuple [.Name x1 p1, .Name x2 p2, .Name x3 p3] kk tp)) (some n) (b₀ :: suite) pos'] [] [] pos) (tTry3 X.K [c1, c2, c3] i tb ts) := by
  refine ⟨fun pins s σ H D I h => ?_⟩
  have okX := I.ok
  have frX : X.A.frames = some (X.env :: X.outer) := by rw [okX.frames, hs]
  generalize hh : Expr.Tuple [.Name x1 p1, .Name x2 p2, .Name x3 p3] kk tp = tup
  refine wpAny_Try_except (wpAny_mono ((hb (wTup X.K [c1, c2, c3] i ts D.nx) (X.pn ++ pins) (fun e u1 => wpAny (model X.prog X.w) X.A (noteFrame e X.env) (fun _ u2 => wpAny (model X.prog X.w) X.A (setFlight e none) (fun _ u3 =>
    wpAny (model X.prog X.w) X.A (handleBy e X.env [.ExceptHandler (some tup) (some n) (b₀ :: suite) pos']) (SP X pins D) X.xe u3) X.xe u2) X.xe u1) (fun u s' xx => ?_)).run [] s σ H _ (I.toTry _) h) (fun f s1 hsp => ?_) (fun e s1 he => he))
  · obtain ⟨a, B, sI, pins2, σ2, H2, cls, d, rfl, J0, nb, up, sky, na, os, ag, hm, yes⟩ := xx
    have J := J0.ofTry okX
    rw [hs] at sky
    (show wpAny (model X.prog X.w) X.A (noteFrame (.ref a) X.env) _ _ _)
    refine L2N.Sky.land (L := X.env.locals) L2N.Zn.steady frX hf sky fun h3 fl3 up3 => ?_
    have J3 := J.landed nb fl3.1 (s' := { s' with heap := h3 }) (up.trans up3) os ag
    obtain ⟨oe, vs, he, hz, hd⟩ := fl3.there
    have nfr : a ∉ frs (X.env :: X.outer) := fun m => by
      obtain ⟨_, o2, e2, z⟩ := fl3.2.2.1.mem m
      rw [he] at e2; cases e2
      exact z _ hd
    have nL : a ≠ X.env.locals := fun z => nfr (List.mem_filterMap.mpr ⟨X.env, List.mem_cons_self, by rw [hf, z]⟩)
    have nF : a ∉ X.fs := fun m => by
      obtain ⟨e, he2, q⟩ := List.mem_filterMap.mp m
      exact nfr (List.mem_filterMap.mpr ⟨e, List.mem_cons_of_mem _ he2, q⟩)
    have S3 := J3.suite he hd na nL nF
    refine wpAny_handleBy_cons (codeAny_handlers_test ?_) (by intro q; cases q)
    rw [← hh]
    have nm : ∀ {x : Str} {c : Value}, Names X x c → Names (X.suite a ((a, oe) :: (X.pn ++ pins))) x c := fun h => h
    refine wpAny_Tuple ?_
    refine wpAny_items_cons (look_name S3 (nm n1) ?_)
    refine wpAny_items_cons (look_name S3 (nm n2) ?_)
    refine wpAny_items_cons (look_name S3 (nm n3) ?_)
    refine wpAny_items_nil ⟨(by size_fits), ?_⟩
    have kp : ∀ q o, h3.get? q = some o → (h3.push ({ cls := .type "tuple", data := .seq [c1, c2, c3].toArray } : Obj)).get? q = some o := fun q o => Heap.get?_push_of_some _
    have LT : PySem.W.Looks (model X.prog X.w) (h3.push ({ cls := .type "tuple", data := .seq [c1, c2, c3].toArray } : Obj)) (typeOf (.ref a)) cls := fun A Q E s k q => wpAny_typeOf_ref (k _ _ (kp _ _ he)) (by rw [hz.1]; exact q)
    refine (PySem.W.exm_tup3 (M := model X.prog X.w) (J3.kIn.keeps kp) LT (Heap.get?_push_size h3 rfl) hm).here ?_
    generalize h3.push ({ cls := .type "tuple", data := .seq [c1, c2, c3].toArray } : Obj) = hq at kp
    have flq : HandSPX.FlyingZ B (X.env :: X.outer) a (L2N.Zn cls d) hq := by
      obtain ⟨f1, f2, f3, o1, w1, T, oT, w2, g1, g2, g3, g4, g5, g6, g7, g8, g9⟩ := fl3
      exact ⟨fun b o e => kp _ _ (f1 b o e), f2, f3.of_keeps fun b o e _ => ⟨o, kp _ _ e, rfl⟩, o1, w1, T, oT, w2, kp _ _ g1, g2, g3, g4, g5, g6, kp _ _ g7, g8, g9⟩
    refine codeAny_handlers_suite_as (HandSPX.lands_againZ flq fun h4 fl4 up4 => ?_)
    have upq : sI.heap.UpToSlots h4 := ((up.trans up3).trans (Heap.UpToSlots.of_keeps kp)).trans up4
    have J4 := J.landed nb fl4.1 (s' := { s' with heap := h4 }) upq os ag
    obtain ⟨oe4, vs4, he4, hz4, hd4⟩ := fl4.there
    have S4 := J4.suite he4 hd4 na nL nF
    refine store_ok (X := X.suite a ((a, oe4) :: (X.pn ++ pins))) (v := .ref a) S4 hN hi (.inl hln) rfl (fun s5 S5 => wpAny_mono ((hsu a oe4 cls d (X.pn ++ pins) hz4 ⟨_, hd4⟩).run [] s5 _ H2 _ S5 (yes a na)) (fun f s6 hsp => ?_) (fun _ _ z => False.elim z)) (.inr hln)
    cases f with
    | next =>
      obtain ⟨σ6, H6, S6, q6⟩ := hsp
      exact gone_ok (S6.unsuite okX) hN hi hln fun s7 J7 => ⟨_, _, J7, q6⟩
    | brk => obtain ⟨_, _, _, q⟩ := hsp; exact q.elim
    | cont => obtain ⟨_, _, _, q⟩ := hsp; exact q.elim
    | ret u => obtain ⟨_, _, _, _, _, q⟩ := hsp; exact q.elim
  · cases f with
    | next =>
      obtain ⟨σ2, H2, J, q⟩ := hsp
      exact wpAny_execs_nil ⟨σ2, H2, J.ofTry okX, q⟩
    | brk => obtain ⟨_, _, _, q⟩ := hsp; exact q.elim
    | cont => obtain ⟨_, _, _, q⟩ := hsp; exact q.elim
    | ret u => obtain ⟨_, _, _, _, _, q⟩ := hsp; exact q.elim
end
end L3
set_option Elab.async false
set_option linter.all false
set_option maxRecDepth 100000
set_option maxHeartbeats 2000000
namespace L3
open PySem PySem.Spec PyProof.Rows L2
/-- a def called while an exception is handled, its promise told of the very state -/
theorem run_hot {CX : CXT} {P : Program} {w : World} {K : PySem.W.Frag} {mg : Str → Option Value} {base : Heap} {k : Nat} {g : Addr} {x qual : Str} {params : Arguments} {body : List Stmt} {scope : Scope} {dvs : List V} {kws : List (Str × V)} {fd : FuncData} {N ps : List Str} (F : FunD K x qual params body scope dvs kws g fd) (S : FnScope N ps scope)
    {A : Around} {outer : List Env} {s : Shared} {H : Hp} {args : Args} {us : List Value} {vs : List V} {Q : VK} {E : XK} {p : Addr × Obj} (hr : L2H.RoomH (k + 1) A) (hot : L2H.Hot1 A p) (pin : L2H.PinOk outer H s p) (e0 : Env0 P w K mg base A outer s H) (hb : BindsTo s fd args (ps.zip us)) (r : Vals vs us) (hl : vs.length = ps.length)
    (hbody : ∀ cdv, L2H.RoomH k (A.deeper (envOfC qual scope s.heap.objs.size g cdv)) → ∃ t, PSs (L2H.cxH CX P w K mg base N qual scope g cdv A outer s H E p) body t ∧ t { nx := fun _ H' => Q .non H', rt := Q } (L2.start N vs) H) :
    codeAny (model P w) A (.call (.ref g) args) (CR CX outer P w H s Q E) s := by
  obtain ⟨oc, od, dV, kV, doc, pm, an, cdv, ct, osl, rfl, lk, hcd, _, _⟩ := F.ex
  have kin : K.In s.heap := e0.mod.kin.keeps fun b o e => (e0.bs b o e).1
  have lim : s.heap.NoLimit := e0.mod.nolimit.keeps fun b o e => (e0.bs b o e).1
  have kinds : ∀ y ∈ ps.zip us, scope.names.lookup y.1 = some .local ∨ (scope.names.lookup y.1 = some .cell ∧ ((cellsFrom (s.heap.objs.size + 1) scope.names []).lookup y.1).isSome = true) := fun ⟨n, v⟩ hy =>
    (S.par n (List.of_mem_zip hy).1).elim .inl fun q => .inr ⟨q, PySem.W.cellsFrom_some _ _ _ (.inl q)⟩
  refine codeAny_call_function hr.depth (kin _ _ lk) rfl S.co S.gen rfl (PySem.W.codeRec_of kin hcd) (hb _ _ _ _ (wpAny_newFunctionEnv_cells S.kind kinds fun env he s1 x1 => ?_))
  subst he
  refine ⟨lim.keeps x1.toInCall.keep, codeAny_func ?_⟩
  obtain ⟨t, ht, hq⟩ := hbody cdv (hr.deeper _)
  have I : Inv (L2H.cxH CX P w K mg base N qual scope g cdv A outer s H E p) [] (L2.start N vs) H s1 := L2H.inv_startH S pin e0 hl r x1
  refine wpAny_mono (ht.run [] s1 (L2.start N vs) H _ I hq) (fun fl s' hs => ?_) fun e s' hs => hs
  cases fl with
  | ret u => obtain ⟨v, σ', H', J, rv, q⟩ := hs; exact ⟨v, H', J.os, J.bare, J.base, J.hok, rv, q⟩
  | next => obtain ⟨σ', H', J, q⟩ := hs; exact ⟨V.non, H', J.os, J.bare, J.base, J.hok, (rfl : RelV V.non Value.none), q⟩
  | brk => obtain ⟨_, _, _, q⟩ := hs; exact q.elim
  | cont => obtain ⟨_, _, _, q⟩ := hs; exact q.elim
def findN : List Str → List D → Str → Option D
  | n :: ns, d :: ds, f => if n = f then some d else findN ns ds f
  | _, _, _ => none
theorem findN_rep {K : PySem.W.Frag} {F : Hp} {f : Str} : ∀ {ns : List Str} {ds : List D} {xs : List V} {d : D}, Reps K F ds xs → findN ns ds f = some d → ∃ v, (ns.zip xs).lookup f = some v ∧ Rep K F d v
  | [], _, _, _, _, h => by simp [findN] at h
  | n :: ns, [], _, _, _, h => by simp [findN] at h
  | n :: ns, e :: ds, _, d, ⟨x, r, hx, h1, h2⟩, h => by
    subst hx
    by_cases c : n = f
    · subst c
      have h' : (if n = n then some e else findN ns ds n) = some d := h
      rw [if_pos rfl] at h'
      cases h'
      exact ⟨x, by rw [List.zip_cons_cons, List.lookup_cons_self], h1⟩
    · simp only [findN, if_neg c] at h
      obtain ⟨v, hv, rv⟩ := findN_rep h2 h
      refine ⟨v, ?_, rv⟩
      have nb : (f == n) = false := by
        rw [beq_eq_false_iff_ne]; exact fun e => c e.symm
      rw [List.zip_cons_cons, List.lookup_cons, nb]
      exact hv
theorem pe_xfp {Y : Cx} {a C dd : Addr} {oe : Obj} {e : Expr} {te : TE} {pos : Pos} {n : Str} (T : XfC Y.K C) (no : PySem.W.findIn Y.K (.ref C) n = some none) (hz : Zc (.ref C) (some dd) oe) (hf : ∃ vs, oe.data = .fields vs) (hp : (a, oe) ∈ Y.pn) (he : PE Y e te)
    (hb : attributeBase e n Y.env (eval e Y.env) = eval e Y.env := by rfl) : PE Y (.Attribute e n pos) (fun σ H Q => te σ H fun x H1 => x = .ref a ∧ ∃ fs v, H1 dd = some (.xd fs) ∧ fs.lookup n = some v ∧ Q v H1) := by
  refine ⟨fun pins s σ H Q I h => attr_of hb (thn (he.run pins s σ H _ I h) fun u s1 ⟨x, H1, I1, rx, ex, fs, v, ea, l, q⟩ => ?_)⟩
  subst ex
  obtain rfl : u = Value.ref a := rx
  have ha := (I1.pin (a, oe) (List.mem_append_left _ hp)).1
  obtain ⟨vs, hd⟩ := hf
  obtain ⟨mA, ns, rel⟩ := (I1.hok dd _ ea : ObjOk Y.prog Y.w H1 s1.heap dd (.xd fs))
  obtain ⟨od, ho, hl⟩ := lookIn_ns ns
  obtain ⟨u, hu, ru⟩ := RelO.some_of (v := v) (o := mA n) (by rw [← l]; exact rel n)
  have J : PySem.W.InstAt s1.heap a oe C (some od) := ⟨ha, hz.1, by unfold PySem.W.notCls; rw [hd] <;> rfl, by rw [hz.2]; exact ho⟩
  exact HandSPX.exc_get I1.kIn J T.ga T.gg T.exC (PySem.W.findObj_own T.hdC no rfl (by rw [hl, hu])) (handed_of ru) ⟨v, H1, I1.tok _, ru, q⟩
def dXf (a dd : Addr) (f : Str) (te : DE) : DE := fun env M Q => te env M fun d M1 => match d with
  | .exc a' dd' ns ds => (a' = a ∧ dd' = dd) ∧ match findN ns ds f with
    | some v => Q v M1
    | none => False
  | _ => False
theorem pd_xf {Y : Cx} {a C dd : Addr} {oe : Obj} {e : Expr} {te : DE} {pos : Pos} {n : Str} (T : XfC Y.K C) (no : PySem.W.findIn Y.K (.ref C) n = some none) (hz : Zc (.ref C) (some dd) oe) (hf : ∃ vs, oe.data = .fields vs) (hp : (a, oe) ∈ Y.pn) (he : PDE Y e te)
    (hb : attributeBase e n Y.env (eval e Y.env) = eval e Y.env := by rfl) : PDE Y (.Attribute e n pos) (dXf a dd n te) :=
  pe_imp (pe_xfp T no hz hf hp he hb) fun σ H Q ⟨R, F, env, M, Qd, at0, en, h, k⟩ => ⟨R, F, env, M, _, at0, en, h, fun F1 H1 M1 d v s1 a1 r1 q1 => by
    split at q1
    · rename_i a' dd' ns ds
      obtain ⟨⟨e1, e2⟩, q1⟩ := q1
      subst e1 e2
      obtain ⟨ev, xs, fx, hl, rs⟩ := r1
      split at q1
      · rename_i g hg
        obtain ⟨z, hz2, rz⟩ := findN_rep rs hg
        exact ⟨ev, _, z, a1.fz _ _ fx, hz2, k F1 H1 M1 g z s1 a1 rz q1⟩
      · exact q1.elim
    · exact q1.elim⟩
end L3
set_option Elab.async false
set_option linter.all false
set_option maxRecDepth 100000
set_option maxHeartbeats 2000000
namespace L3
open PySem PySem.Spec PyProof.Rows L2
theorem pe_cases {X : Cx} {e : Expr} {t : TE} (h : ∀ σ H Q, t σ H Q → ∃ t', PE X e t' ∧ t' σ H Q) : PE X e t := ⟨fun pins s σ H Q I q => by
  obtain ⟨t', h1, h2⟩ := h σ H Q q
  exact h1.run pins s σ H Q I h2⟩
def isS (ws : List Str) (w : Str) : Bool := (ws.map D.str).any fun z => eqD z (.str w)
def plainW : Str := "BadSign BadName BadNumber BadDeed Full Clash NothingLeft"
def fieldOf (ns : List Str) (xs : List D) : Option D := match findN ns xs "word" with
  | some (.str w) => if isS ["Taken", "NoName"] w = true then findN ns xs "name" else if eqD (.str w) (.str "TooMany") = true then findN ns xs "most" else if eqD (.str w) (.str "Still") = true then findN ns xs "strip" else
    if eqD (.str w) (.str "NoSaid") = true then findN ns xs "number" else if isS (Txt.split plainW " ") w = true then some .non else findN ns xs "at"
  | _ => none
/-- what the law's look at an exception does -/
structure FieldOk (P : Program) (w : World) (K : PySem.W.Frag) (mg : Str → Option Value) (base : Heap) (k : Nat) (exs : List Str) : Prop where
  xf : ∀ nm ∈ exs, XfC K (He.ga K nm) ∧ PySem.W.findIn K (.ref (He.ga K nm)) "word" = some none
  ex : ∃ g fd, mg "_law_field" = some (.ref g) ∧ PySem.W.keepIn K (.ref g) = true ∧ Binds K fd [("_law_e" : Str)] [] ∧
    ∀ (nm : Str) (a dd : Addr) (oe : Obj) (A : Around) (outer : List Env) (s : Shared) (H : Hp) (args : Args) (Q : VK) (R F : Hp) (M : Mp) (ns : List Str) (xs : List D) (d : D), nm ∈ exs → L2H.RoomH k A → L2H.Hot1 A (a, oe) → L2H.PinOk outer H s (a, oe) → Zc (.ref (He.ga K nm)) (some dd) oe → (∃ vs, oe.data = .fields vs) →
      Env0 P w K mg base A outer s H → BindsTo s fd args (([("_law_e" : Str)]).zip [Value.ref a]) → At K R F M H → Rep K F (.exc a dd ns xs) (.ref a) → fieldOf ns xs = some d → KD K R F (fun d' M' => d' = d ∧ M' = M) Q → codeAny (model P w) A (.call (.ref g) args) (CR (L2N.CX P w) outer P w H s Q E0) s
theorem field_ok {P : Program} {w : World} {K : PySem.W.Frag} {mg : Str → Option Value} {base : Heap} {k : Nat} {exs : List Str} {st : Stmt} {N : List Str} {t : Addr → Addr → DS} (xf : ∀ nm ∈ exs, XfC K (He.ga K nm) ∧ PySem.W.findIn K (.ref (He.ga K nm)) "word" = some none) (d : DefAt K mg "_law_field" st) (S : FnScope N [("_law_e" : Str)] (defScope st))
    (bind : ∀ (kV doc pm : Value) (an : Option Addr) (cdv ct : Value) (us : List Value), us.length = ([("_law_e" : Str)]).length → bindArgs (PySem.W.fnOf "_law_field" "_law_field" (defArgs st) (defBody st) (defScope st) .none kV doc pm an cdv ct) ⟨us, []⟩ = pure (([("_law_e" : Str)]).zip us))
    (hb : ∀ nm ∈ exs, ∀ (a dd : Addr) (oe : Obj), Zc (.ref (He.ga K nm)) (some dd) oe → (∃ vs, oe.data = .fields vs) → ∀ f cdv A outer s H E, L2H.RoomH k (A.deeper (envOfC "_law_field" (defScope st) s.heap.objs.size f cdv)) → PDSs (L2H.cxH (L2N.CX P w) P w K mg base N "_law_field" (defScope st) f cdv A outer s H E (a, oe)) (defBody st) (t a dd))
    (hr : ∀ a dd ns xs d M Q, fieldOf ns xs = some d → Q d M → t a dd { nx := fun _ M' => Q .non M', rt := Q } (startD N [.exc a dd ns xs]) M) : FieldOk P w K mg base (k + 1) exs := by
  obtain ⟨g, fd, F, hm⟩ := d.ex
  refine ⟨xf, g, fd, hm, F.kp, F.bindsN bind, fun nm a dd oe A outer s H args Q R F' M ns xs d hn hr' hot pin hz hf e0 hb' a0 r0 hd kd => ?_⟩
  refine run_hot (CX := L2N.CX P w) F S hr' hot pin e0 hb' (vs := [.ref a]) (.cons (rfl : RelV (.ref a) (.ref a)) .nil) rfl fun cdv hroom => ?_
  exact ⟨_, hb nm hn a dd oe hz hf g cdv A outer s H E0 hroom, R, F', startD N [.exc a dd ns xs], M, { nx := fun _ M' => .non = d ∧ M' = M, rt := fun d' M' => d' = d ∧ M' = M }, a0, start_env (ds := [.exc a dd ns xs]) (vs := [.ref a]) ⟨.ref a, [], rfl, r0, rfl⟩, hr a dd ns xs d M (fun d2 M2 => d2 = d ∧ M2 = M) hd ⟨rfl, rfl⟩, ⟨fun F1 H1 M1 env1 σ1 s1 a1 e1 q => kd F1 H1 M1 .non .non s1 a1 rfl q, kd, fun _ _ _ _ _ _ _ _ q => q.elim, fun _ _ _ _ _ _ _ _ q => q.elim⟩⟩
section
variable {X : Cx}
theorem opd_inH (hu : X.A.units + 65 < cLine) : OpD X (compareOp .In) (rInDD id) := ⟨_, op_in_str.or (((op_inD (by omega)).or (op_inU (by omega))).or (op_inT (by omega))),
  in_served (rL := fun x y H Q => rInD X.K x y H Q ∨ rInU X.K id x y H Q) id (fun i j H Q q => ⟨i, j, rfl, rfl, q⟩) fun x y d ds H Q d1 d2 s1 q => d2.elim (fun z => .inl ⟨d, ds, d1, z.1, s1, z.2, q⟩) fun z => .inr ⟨d, ds, d1, z.1, s1, z.2, q⟩⟩
theorem opd_eqH (hu : X.A.units + 64 < cLine) : OpD X (compareOp .Eq) (rEqDD id) := ⟨_, op_eqD hu, fun R F M H d e x y Qd Q a r1 r2 ⟨⟨l1, l2⟩, q⟩ kd =>
  let ⟨d1, s1⟩ := py_shaped (res_rep a r1) l1
  let ⟨d2, s2⟩ := py_shaped (res_rep a r2) l2
  ⟨_, _, d1, d2, s1, s2, kd F H M (.bl _) _ (Same.refl _) a rfl q⟩⟩
def tWord (exs : List Str) (K : PySem.W.Frag) (i : Nat) (a : Addr) (cls : Value) (d : Option Addr) : TE := fun σ H Q => ∃ nm dd, nm ∈ exs ∧ cls = .ref (He.ga K nm) ∧ d = some dd ∧ σ[i]? = some (some (.ref a)) ∧ ∃ fs v, H dd = some (.xd fs) ∧ fs.lookup (("word" : Str)) = some v ∧ Q v H
def tField (exs : List Str) (K : PySem.W.Frag) (i : Nat) (a : Addr) (cls : Value) (d : Option Addr) : TE := fun σ H Q => ∃ nm dd, nm ∈ exs ∧ cls = .ref (He.ga K nm) ∧ d = some dd ∧ σ[i]? = some (some (.ref a)) ∧
  ∃ R F M ns xs g, At K R F M H ∧ Rep K F (.exc a dd ns xs) (.ref a) ∧ fieldOf ns xs = some g ∧ KD K R F (fun d' M' => d' = g ∧ M' = M) Q
theorem pe_word {exs : List Str} {i : Nat} {a : Addr} {oe : Obj} {cls : Value} {d : Option Addr} {pn : List (Addr × Obj)} {x : Str} {p pos : Pos} {k : Nat} (T : FieldOk X.prog X.w X.K X.mg X.base k exs) (hz : L2N.Zn cls d oe) (hf : ∃ vs, oe.data = .fields vs)
    (hN : X.N[i]? = some x := by rfl) (hv : Vis X.env.scope x := by first | exact Or.inl rfl | exact Or.inr (Or.inl rfl)) (hd : (x == ("__debug__" : Str)) = false := by decide) (hcd : (x == ("__classdict__" : Str)) = false := by decide)
    (hb : attributeBase (.Name x p) "word" X.env (eval (.Name x p) X.env) = eval (.Name x p) X.env := by rfl) : PE (X.suite a ((a, oe) :: pn)) (.Attribute (.Name x p) "word" pos) (tWord exs X.K i a cls d) :=
  pe_cases fun σ H Q ⟨nm, dd, hn, e1, e2, h0, fs, v, h1, h2, q⟩ => by
    subst e1 e2
    obtain ⟨xc, no⟩ := T.xf nm hn
    exact ⟨_, pe_xfp (Y := X.suite a ((a, oe) :: pn)) xc no hz.zc hf List.mem_cons_self (pe_var (X := X.suite a ((a, oe) :: pn)) (i := i) hN hv hd hcd) hb, .ref a, h0, rfl, fs, v, h1, h2, q⟩
theorem pe_field {exs : List Str} {i : Nat} {a : Addr} {oe : Obj} {cls : Value} {d : Option Addr} {pn : List (Addr × Obj)} {x : Str} {p1 p2 pos : Pos} {k : Nat} (T : FieldOk X.prog X.w X.K X.mg X.base k exs) (hr : L2H.RoomH k (X.A.mark (some (.ref a)))) (hz : L2N.Zn cls d oe) (hf : ∃ vs, oe.data = .fields vs) (hg : Gl X "_law_field" := by rfl)
    (hN : X.N[i]? = some x := by rfl) (hv : Vis X.env.scope x := by first | exact Or.inl rfl | exact Or.inr (Or.inl rfl)) (hd : (x == ("__debug__" : Str)) = false := by decide) (hcd : (x == ("__classdict__" : Str)) = false := by decide)
    (he : starEach [.Name x p2] X.env = (false, eval (.Name x p2) X.env) :: starEach [] X.env := by rfl) : PE (X.suite a ((a, oe) :: pn)) (.Call (.Name "_law_field" p1) [.Name x p2] [] pos) (tField exs X.K i a cls d) := by
  refine ⟨fun pins s σ H Q I ⟨nm, dd, hn, e1, e2, h0, R, F, M, ns, xs, g, a0, r0, hg0, kd⟩ => ?_⟩
  subst e1 e2
  obtain ⟨f, fd, hm, hk, hb, run⟩ := T.ex
  refine wpAny_Call_Name_kw (ld_glob (X := X.suite a ((a, oe) :: pn)) I hg hm ?_ (by decide))
  refine PySem.W.callWith_K (h₀ := X.base) I.ok.mod.kin hk (thn ((pa_cons (pe_var (X := X.suite a ((a, oe) :: pn)) (pos := p2) (i := i) hN hv hd hcd) pa_nil he).run pos pins s σ H (fun vs H1 => vs = [.ref a] ∧ H1 = H) I ⟨.ref a, h0, rfl, rfl⟩) fun us s1 ⟨vs, H1, I1, r1, ev, eH⟩ => ⟨I1.kIn, ?_⟩) he rfl
  subst ev
  rw [eH] at I1
  cases r1 with
  | cons ra rn => ?_
  cases rn
  cases (show _ = Value.ref a from ra)
  have P1 := I1.pin (a, oe) (List.mem_append_left _ List.mem_cons_self)
  obtain ⟨vs0, hd0⟩ := hf
  have hot : L2H.Hot1 (X.A.mark (some (.ref a))) (a, oe) := ⟨rfl, vs0, hd0, hz.2.2 vs0 hd0⟩
  have pin : L2H.PinOk X.stack H s1 (a, oe) := ⟨P1.1, P1.2.1, fun hmm => (List.mem_cons.mp (I1.stkSub a hmm)).elim P1.2.2.1 P1.2.2.2.1, P1.2.2.2.2⟩
  have bd := hb s1 [Value.ref a] I1.kIn rfl
  rw [List.append_nil] at bd
  refine wpAny_call (codeAny_mono (run nm a dd oe (X.A.mark (some (.ref a))) X.stack s1 H ⟨[.ref a], []⟩ Q R F M ns xs g hn hr hot pin hz.zc ⟨vs0, hd0⟩ I1.env0 bd a0 r0 hg0 kd) fun r s2 hq => ?_)
  cases r with
  | error e => exact passE0 pins σ _ _ e s2 I1 hq
  | ok fl =>
    cases fl with
    | ret u => exact I1.after hq
    | next => exact False.elim hq
    | brk => exact False.elim hq
    | cont => exact False.elim hq
end
def tTried (K : PySem.W.Frag) (cs : List Value) (exs : List Str) (f c : Addr) (q : Str) (tl : XK → Hp → VK → Prop) : TS := tSeq (tAsg (tTup (tCons (tC .non) (tCons (tC (.str "")) (tCons (tC .non) tNil)))) (gTup K 3 (gCons (gName 1) (gCons (gName 2) (gCons (gName 3) gNil)))))
  (tSeq (tTry3 K cs 4 (fun W => tAsg (tAsk W 0 f c q tl) (gName 1)) (fun a cls d => tPar 2 3 (tCons (tWord exs K 4 a cls d) (tCons (tField exs K 4 a cls d) tNil)))) (tRet (tTup (tCons (tVar 1) (tCons (tVar 2) (tCons (tVar 3) tNil))))))
abbrev triedN : List Str := ["_law_ask", "_law_told", "_law_word", "_law_field_here", "_law_e"]
/-- what is wished of the value, of an exception -/
def tWv (Q : VK) : VK := fun v H' => ∀ p, H' p = none → Q (.ref p) (upd H' p (.tup [v, .str "", .non]))
def tWx (K : PySem.W.Frag) (cs : List Value) (exs : List Str) (Q : VK) : XK := fun cls d H' => PySem.W.exmAny K cls cs = some true ∧ ∃ nm dd R F M ns xs ys w g, nm ∈ exs ∧ cls = .ref (He.ga K nm) ∧ d = some dd ∧ At K R F M H' ∧ F dd = some (.xd (ns.zip ys)) ∧ ns.length = xs.length ∧ Reps K F xs ys ∧ findN ns xs "word" = some (.str w) ∧ fieldOf ns xs = some g ∧
  KD K R F (fun g' M' => g' = g ∧ M' = M) fun v H2 => ∀ p, H2 p = none → Q (.ref p) (upd H2 p (.tup [.non, .str w, v]))
structure Mono (tl : XK → Hp → VK → Prop) : Prop where
  up : ∀ (E : XK) (H : Hp) (Q Q' : VK), (∀ v H', Q v H' → Q' v H') → tl E H Q → tl E H Q'
  lay : ∀ (E : XK) (H : Hp) (Q : VK) (p : Addr) (o : HO), tl E H Q → H p = none → tl E (upd H p o) Q
theorem mono_up {K : PySem.W.Frag} {tb : DEX} {σ : L2.St} : Mono fun E H Q => upX K E tb σ H Q where
  up := fun E H Q Q' h ⟨R, F, env, M, Qd, Ed, a, en, t, k, kx⟩ => ⟨R, F, env, M, Qd, Ed, a, en, t, fun F1 H1 M1 d v s1 a1 r1 q1 => h _ _ (k F1 H1 M1 d v s1 a1 r1 q1), kx⟩
  lay := fun E H Q p o ⟨R, F, env, M, Qd, Ed, a, en, t, k, kx⟩ hp => let ⟨a2, s2⟩ := a.laid hp o; ⟨R, upd F p o, env, M, Qd, Ed, a2, en.mono s2, t, k.mono s2, kx.mono s2⟩
theorem tried_run {K : PySem.W.Frag} {cs : List Value} {exs : List Str} {f c : Addr} {q : Str} {tl : XK → Hp → VK → Prop} {H : Hp} {Q : VK} (mo : Mono tl) (hc : H c = some (LamX.CodeO c q)) (h : tl (tWx K cs exs Q) H (tWv Q)) :
    tTried K cs exs f c q tl { nx := fun _ H' => Q .non H', rt := Q } (L2.start triedN [.ref f]) H := by
  refine ⟨(by show 3 ≤ sizeLine; decide), fun p0 hp0 => ⟨p0, _, rfl, .inl (.inl upd_same), rfl, _, _, rfl, _, _, rfl, _, _, rfl, rfl, ?_⟩⟩
  have hc : upd H p0 (.tup [.non, .str "", .non]) c = some (LamX.CodeO c q) := by rw [upd_ne (fun e => by rw [e, hp0] at hc; cases hc)]; exact hc
  have h := mo.lay _ _ _ p0 (.tup [.non, .str "", .non]) h hp0
  refine ⟨rfl, hc, tWx K cs exs Q, fun cls d H' ⟨hm, nm, dd, R, F, M, ns, xs, ys, w, g, hn, e1, e2, a0, fd, hl, rs, hw, hg, kd⟩ => ?_, ?_⟩
  · obtain ⟨v0, hv0, r0⟩ := findN_rep rs hw
    cases (show v0 = V.str w from r0.1)
    refine ⟨hm, fun a na => ⟨nm, dd, hn, e1, e2, rfl, _, _, a0.fz _ _ fd, hv0, ?_⟩⟩
    refine ⟨nm, dd, hn, e1, e2, rfl, R, F, M, ns, xs, g, a0, ⟨rfl, ys, fd, hl, rs⟩, hg, fun F1 H1 M1 d1 v1 s1 a1 r1 q1 => ?_⟩
    refine ⟨_, _, rfl, ?_⟩
    refine ⟨_, rfl, _, rfl, _, rfl, (by show 3 ≤ sizeLine; decide), ?_⟩
    exact kd F1 H1 M1 d1 v1 s1 a1 r1 q1
  · exact mo.up _ _ _ _ (fun v H' hv => ⟨_, rfl, _, rfl, _, rfl, (by show 3 ≤ sizeLine; decide), hv⟩) h
def MonoX (tl : XK → Hp → VK → Prop) : Prop := ∀ (E E' : XK) (H : Hp) (Q : VK), (∀ cls d H', E cls d H' → E' cls d H') → tl E H Q → tl E' H Q
theorem monoX_up {K : PySem.W.Frag} {tb : DEX} {σ : L2.St} : MonoX fun E H Q => upX K E tb σ H Q := fun E E' H Q h ⟨R, F, env, M, Qd, Ed, a, en, t, k, kx⟩ => ⟨R, F, env, M, Qd, Ed, a, en, t, k, fun F1 H1 M1 nm dd ns ds xs s1 a1 f1 l1 r1 q1 => h _ _ _ (kx F1 H1 M1 nm dd ns ds xs s1 a1 f1 l1 r1 q1)⟩
/-- a def that takes a lambda and calls it -/
structure Taker (P : Program) (w : World) (K : PySem.W.Frag) (mg : Str → Option Value) (base : Heap) (k n : Nat) (x : Str) (WX : VK → XK) (WV : VK → VK) : Prop where
  ex : ∃ g, mg x = some (.ref g) ∧ PySem.W.keepIn K (.ref g) = true ∧
    ∀ (A : Around) (outer : List Env) (s : Shared) (H : Hp) (f c : Addr) (q : Str) (tl : XK → Hp → VK → Prop) (j : Nat) (Q : VK), Room k A → j + n ≤ k → K.In s.heap → Env0 P w K mg base A outer s H → Cal P w K mg base j q f c tl (frs outer) s H → Mono tl → MonoX tl → H c = some (LamX.CodeO c q) → tl (WX Q) H (WV Q) →
      codeAny (model P w) A (.call (.ref g) ⟨[.ref f], []⟩) (CR (L2N.CX P w) outer P w H s Q E0) s
theorem Taker.mono {P : Program} {w : World} {K : PySem.W.Frag} {mg : Str → Option Value} {base : Heap} {k k' n : Nat} {x : Str} {WX : VK → XK} {WV : VK → VK} (T : Taker P w K mg base k n x WX WV) (h : k ≤ k') (hn : k' ≤ k) : Taker P w K mg base k' n x WX WV := by
  have e : k' = k := by omega
  subst e; exact T
abbrev TriedOk (P : Program) (w : World) (K : PySem.W.Frag) (mg : Str → Option Value) (base : Heap) (k : Nat) (cs : List Value) (exs : List Str) : Prop := Taker P w K mg base k 2 "_law_tried" (tWx K cs exs) tWv
theorem tried_ok {P : Program} {w : World} {K : PySem.W.Frag} {mg : Str → Option Value} {base : Heap} {k : Nat} {cs : List Value} {exs : List Str} {st : Stmt} (d : DefAt K mg "_law_tried" st) (S : FnScope triedN [("_law_ask" : Str)] (defScope st))
    (bind : ∀ (kV doc pm : Value) (an : Option Addr) (cdv ct : Value) (us : List Value), us.length = ([("_law_ask" : Str)]).length → bindArgs (PySem.W.fnOf "_law_tried" "_law_tried" (defArgs st) (defBody st) (defScope st) .none kV doc pm an cdv ct) ⟨us, []⟩ = pure (([("_law_ask" : Str)]).zip us))
    (hb : ∀ (g : Addr) (cdv : Value) (A : Around) (outer : List Env) (s : Shared) (H : Hp) (f c : Addr) (q : Str) (tl : XK → Hp → VK → Prop) (j : Nat), j + 1 ≤ k → Cal P w K mg base j q f c tl (frs outer) s H → Room k (A.deeper (envOfC "_law_tried" (defScope st) s.heap.objs.size g cdv)) →
      PSs (bodyX P w K mg base triedN "_law_tried" st g cdv A outer s H E0) (defBody st) (tTried K cs exs f c q tl)) : TriedOk P w K mg base (k + 1) cs exs := by
  obtain ⟨g, fd, F, hm⟩ := d.ex
  refine ⟨g, hm, F.kp, fun A outer s H f c q tl j Q hr hj kin e0 C mo mx hc h => ?_⟩
  have bd := F.bindsN bind s [Value.ref f] kin rfl
  rw [List.append_nil] at bd
  obtain ⟨oc, od, dV, kV, doc, pm, an, cdv, ct, osl, rfl, lk, hcd, _, _⟩ := F.ex
  exact LamX.run_ofS (CX := L2N.CX P w) lk hcd S hr e0 bd (vs := [.ref f]) (.cons (rfl : RelV (.ref f) (.ref f)) .nil) rfl fun hr2 => ⟨_, hb g cdv A outer s H f c q tl j (by omega) C hr2, tried_run mo hc h⟩
abbrev refusedN : List Str := ["_law_ask"]
def tRefT (K : PySem.W.Frag) (cs : List Value) (exs : List Str) (f c : Addr) (q : Str) (tl : XK → Hp → VK → Prop) : TE := fun σ H Q => σ[0]? = some (some (.ref f)) ∧ H c = some (LamX.CodeO c q) ∧ tl (tWx K cs exs Q) H (tWv Q)
theorem pe_tried {Z : Cx} {k j : Nat} {cs : List Value} {exs : List Str} {f c : Addr} {q : Str} {tl : XK → Hp → VK → Prop} {p1 p2 pos : Pos} (T : TriedOk Z.prog Z.w Z.K Z.mg Z.base k cs exs) (C : Cal Z.prog Z.w Z.K Z.mg Z.base j q f c tl Z.fs Z.s_0 Z.H_0) (mo : Mono tl) (mx : MonoX tl) (hx : Z.ex = []) (hs : Z.stack = Z.env :: Z.outer) (hr : Room k Z.A) (hj : j + 2 ≤ k) (hg : Gl Z "_law_tried" := by rfl)
    (hN : Z.N[0]? = some ("_law_ask" : Str) := by rfl) (hv : Vis Z.env.scope "_law_ask" := by first | exact Or.inl rfl | exact Or.inr (Or.inl rfl)) (he : starEach [.Name "_law_ask" p2] Z.env = (false, eval (.Name "_law_ask" p2) Z.env) :: starEach [] Z.env := by rfl) :
    PE Z (.Call (.Name "_law_tried" p1) [.Name "_law_ask" p2] [] pos) (tRefT Z.K cs exs f c q tl) := by
  refine ⟨fun pins s σ H Q I ⟨h0, hc, ht⟩ => ?_⟩
  obtain ⟨g, hm, hk, run⟩ := T.ex
  refine wpAny_Call_Name_kw (ld_glob I hg hm ?_ (by decide))
  refine PySem.W.callWith_K (h₀ := Z.base) I.ok.mod.kin hk (thn ((pa_cons (pe_var (pos := p2) (i := 0) hN hv (by decide) (by decide)) pa_nil he).run pos pins s σ H (fun vs H1 => vs = [.ref f] ∧ H1 = H) I ⟨.ref f, h0, rfl, rfl⟩) fun us s1 ⟨vs, H1, I1, r1, ev, eH⟩ => ⟨I1.kIn, ?_⟩) he rfl
  subst ev
  rw [eH] at I1
  cases r1 with
  | cons ra rn => ?_
  cases rn
  cases (show _ = Value.ref f from ra)
  refine wpAny_call (codeAny_mono (run Z.A Z.stack s1 H f c q tl j Q hr hj I1.kIn I1.env0 (C.call I1 hx hs) mo mx hc ht) fun r s2 hq => ?_)
  cases r with
  | error e => exact passE0 pins σ _ _ e s2 I1 hq
  | ok fl =>
    cases fl with
    | ret u => exact I1.after hq
    | next => exact False.elim hq
    | brk => exact False.elim hq
    | cont => exact False.elim hq
def tWvR (Q : VK) : VK := fun v H' => ∀ p, H' p = none → ∀ p2, upd H' p (.tup [v, .str "", .non]) p2 = none → Q (.ref p2) (upd (upd H' p (.tup [v, .str "", .non])) p2 (.tup [.str "", .non]))
def tWxR (K : PySem.W.Frag) (cs : List Value) (exs : List Str) (Q : VK) : XK := fun cls d H' => PySem.W.exmAny K cls cs = some true ∧ ∃ nm dd R F M ns xs ys w g, nm ∈ exs ∧ cls = .ref (He.ga K nm) ∧ d = some dd ∧ At K R F M H' ∧ F dd = some (.xd (ns.zip ys)) ∧ ns.length = xs.length ∧ Reps K F xs ys ∧ findN ns xs "word" = some (.str w) ∧ fieldOf ns xs = some g ∧
  KD K R F (fun g' M' => g' = g ∧ M' = M) fun v H2 => ∀ p, H2 p = none → ∀ p2, upd H2 p (.tup [.non, .str w, v]) p2 = none → Q (.ref p2) (upd (upd H2 p (.tup [.non, .str w, v])) p2 (.tup [.str w, v]))
def tRefused (K : PySem.W.Frag) (cs : List Value) (exs : List Str) (f c : Addr) (q : Str) (tl : XK → Hp → VK → Prop) : TS := tRet (tSl (rSlA K) (tRefT K cs exs f c q tl) (tPart (tC (.int 1))) tNoPart)
theorem cut3 (x y z : V) : HT.sIx [x, y, z].length 0 (some 1) = 1 ∧ cutV [x, y, z] (some 1) none = [y, z] := ⟨rfl, rfl⟩
theorem refused_run {K : PySem.W.Frag} {cs : List Value} {exs : List Str} {f c : Addr} {q : Str} {tl : XK → Hp → VK → Prop} {H : Hp} {Q : VK} (mo : Mono tl) (mx : MonoX tl) (hc : H c = some (LamX.CodeO c q)) (h : tl (tWxR K cs exs Q) H (tWvR Q)) :
    tRefused K cs exs f c q tl { nx := fun _ H' => Q .non H', rt := Q } (L2.start refusedN [.ref f]) H := by
  have sl : ∀ {x y z : V} {H' : Hp} {p : Addr}, (∀ p2, upd H' p (.tup [x, y, z]) p2 = none → Q (.ref p2) (upd (upd H' p (.tup [x, y, z])) p2 (.tup [y, z]))) → rSlA K (.ref p) (some 1) none (upd H' p (.tup [x, y, z])) Q := fun {x y z H' p} hq =>
    ⟨p, _, rfl, .inl (.inl upd_same), fun ⟨z1, _⟩ => by rw [(cut3 x y z).1] at z1; exact absurd z1 (by decide), fun _ p2 hp => by rw [(cut3 x y z).2]; exact hq p2 hp⟩
  refine ⟨rfl, hc, mo.up _ _ _ _ (fun v H' hv p hp => ⟨1, rfl, sl (hv p hp)⟩) (mx _ _ _ _ (fun cls d H' ⟨hm, nm, dd, R, F, M, ns, xs, ys, w, g, hn, e1, e2, a0, fd, hl, rs, hw, hg, kd⟩ => ⟨hm, nm, dd, R, F, M, ns, xs, ys, w, g, hn, e1, e2, a0, fd, hl, rs, hw, hg, fun F1 H1 M1 d1 v1 s1 a1 r1 q1 p hp => ⟨1, rfl, sl (kd F1 H1 M1 d1 v1 s1 a1 r1 q1 p hp)⟩⟩) h)⟩
abbrev RefusedOk (P : Program) (w : World) (K : PySem.W.Frag) (mg : Str → Option Value) (base : Heap) (k : Nat) (cs : List Value) (exs : List Str) : Prop := Taker P w K mg base k 3 "_law_refused" (tWxR K cs exs) tWvR
theorem refused_ok {P : Program} {w : World} {K : PySem.W.Frag} {mg : Str → Option Value} {base : Heap} {k : Nat} {cs : List Value} {exs : List Str} {st : Stmt} (d : DefAt K mg "_law_refused" st) (S : FnScope refusedN [("_law_ask" : Str)] (defScope st))
    (bind : ∀ (kV doc pm : Value) (an : Option Addr) (cdv ct : Value) (us : List Value), us.length = ([("_law_ask" : Str)]).length → bindArgs (PySem.W.fnOf "_law_refused" "_law_refused" (defArgs st) (defBody st) (defScope st) .none kV doc pm an cdv ct) ⟨us, []⟩ = pure (([("_law_ask" : Str)]).zip us))
    (hb : ∀ (g : Addr) (cdv : Value) (A : Around) (outer : List Env) (s : Shared) (H : Hp) (f c : Addr) (q : Str) (tl : XK → Hp → VK → Prop) (j : Nat), j + 2 ≤ k → Mono tl → MonoX tl → Cal P w K mg base j q f c tl (frs outer) s H → Room k (A.deeper (envOfC "_law_refused" (defScope st) s.heap.objs.size g cdv)) →
      PSs (bodyX P w K mg base refusedN "_law_refused" st g cdv A outer s H E0) (defBody st) (tRefused K cs exs f c q tl)) : RefusedOk P w K mg base (k + 1) cs exs := by
  obtain ⟨g, fd, F, hm⟩ := d.ex
  refine ⟨g, hm, F.kp, fun A outer s H f c q tl j Q hr hj kin e0 C mo mx hc h => ?_⟩
  have bd := F.bindsN bind s [Value.ref f] kin rfl
  rw [List.append_nil] at bd
  obtain ⟨oc, od, dV, kV, doc, pm, an, cdv, ct, osl, rfl, lk, hcd, _, _⟩ := F.ex
  exact LamX.run_ofS (CX := L2N.CX P w) lk hcd S hr e0 bd (vs := [.ref f]) (.cons (rfl : RelV (.ref f) (.ref f)) .nil) rfl fun hr2 => ⟨_, hb g cdv A outer s H f c q tl j (by omega) mo mx C hr2, refused_run mo mx hc h⟩
section
variable {X : Cx} {pins : List (Addr × Obj)} {σ : L2.St} {H : Hp} {s : Shared}
/-- a lambda is made, over data: its code is new, or found in the table -/
theorem lam_make3 {P c : Addr} {params : Arguments} {body : Expr} {scope : Scope} {pos : Pos} {E : Value → Shared → Prop} {Q : Value → Shared → Prop} {R F : Hp} {M : Mp} (I : Inv X pins σ H s) (a : At X.K R F M H) (hM : M P = some (.tbl (X.env.qual ++ "<lambda>"))) (TB : LamX.TabB X.base X.mg c P) (hcode : X.env.code = .ref c)
    (hdef : defaultsOf params X.env = ([], [])) (hfree : ∀ y ∈ scope.names, y.2 = .free → ∃ c, X.env.cells.lookup y.1 = some c)
    (h : ∀ (f c' : Addr) (pm ctv : Value) (H1 F1 : Hp) (s' : Shared), Inv X pins σ H1 s' → Same F F1 → At X.K R F1 M H1 → F1 c' = some (LamX.CodeO c' (X.env.qual ++ "<lambda>")) →
      s'.heap.get? f = some (PySem.W.kla_obj "<lambda>" (X.env.qual ++ "<lambda>") params body scope (cloFrom X.env.cells scope.names []) pm c' ctv) → H1 f = none → f ∉ frs X.stack → Q (.ref f) s') : wpAny (model X.prog X.w) X.A (eval (.Lambda params body scope pos) X.env) Q E s := by
  obtain ⟨nF, u, hP, ps, eu, ht, ha⟩ := a.mu _ _ hM
  subst eu
  refine PySem.W.kla_eval hdef ?_
  have bP := TB.bm.keeps I.bk
  have hP' : s.heap.get? P = some { cls := .none, data := .fields ps } := I.hok P _ hP
  have nofr : ∀ f, s.heap.objs.size ≤ f → f ∉ frs X.stack := fun f hf z => (List.mem_cons.mp (I.stkSub _ z)).elim (fun e => by
    have lt := I.lt
    rw [← e] at lt
    exact absurd (Nat.lt_of_lt_of_le lt hf) (Nat.lt_irrefl _)) (I.nofs hf)
  cases hc : codeAmong pos ps.toList with
  | some cv =>
    obtain ⟨c', e, hco⟩ := ha pos cv hc
    subst e
    refine PySem.W.kla_makeFunctionHit (mg := X.mg) (c := c) (P := P) (ps := ps) (closure_ok hfree) I.ok.glob (I.mod.glob.keeps I.bk) hcode (TB.code.keeps I.bk) hP' ht hc bP fun ctv h' tk hx hsz => ?_
    have I1 : Inv X pins σ H { s with heap := h'.push (PySem.W.kla_obj "<lambda>" (X.env.qual ++ "<lambda>") params body scope (cloFrom X.env.cells scope.names []) ((X.mg "__name__").getD .none) c' ctv), toks := tk } := I.kept (fun b o e => Heap.get?_push_of_some _ (hx b o e))
    exact h h'.objs.size c' ((X.mg "__name__").getD .none) ctv H F _ I1 (Same.refl F) a hco (Heap.get?_push_size _ rfl) (I.hok.fresh hsz) (nofr _ hsz)
  | none =>
    refine PySem.W.kla_makeFunction (mg := X.mg) (c := c) (P := P) (ps := ps) (closure_ok hfree) I.ok.glob (I.mod.glob.keeps I.bk) hcode (TB.code.keeps I.bk) hP' ht hc TB.gP bP fun c' ctv h' tk hx hge hlt hrec htb => ?_
    obtain ⟨c2, oc, vs, t, e2, hoc, hd, hv⟩ := hrec
    cases e2
    have nC : H c' = none := I.hok.fresh hge
    have hsz := Nat.le_trans hge (Nat.le_of_lt hlt)
    have ne : P ≠ c' := ne_of_none hP nC
    have I1 := LamX.inv_table (t' := tk) (more := #[rawInt pos.line, rawInt pos.col, .ref c']) (h' := h'.push (PySem.W.kla_obj "<lambda>" (X.env.qual ++ "<lambda>") params body scope (cloFrom X.env.cells scope.names []) ((X.mg "__name__").getD .none) c' ctv)) I hP
      (fun b o hb e => Heap.get?_push_of_some _ (hx b o hb e)) (Heap.get?_push_of_some _ htb) hge ⟨oc, vs, t, Heap.get?_push_of_some _ hoc, hd, hv⟩
    obtain ⟨a1, s1⟩ := a.laid nC (LamX.CodeO c' (X.env.qual ++ "<lambda>"))
    have eL : (ps ++ #[rawInt pos.line, rawInt pos.col, .ref c']).toList = ps.toList ++ [rawInt pos.line, rawInt pos.col, .ref c'] := by simp
    have r2 : RepO X.K (upd F c' (LamX.CodeO c' (X.env.qual ++ "<lambda>"))) P (.tbl (X.env.qual ++ "<lambda>")) (.tbl (ps ++ #[rawInt pos.line, rawInt pos.col, .ref c'])) := ⟨_, rfl, by rw [eL]; exact PySem.TriplesOk_snoc _ _ _ _ ht, fun p2 cv hcv => by
      rw [eL] at hcv
      rcases LamX.among_app _ ht hcv with z | z
      · obtain ⟨c0, e1, e2⟩ := ha p2 cv z
        exact ⟨c0, e1, s1 _ _ e2⟩
      · exact ⟨c', z, upd_same⟩⟩
    have a2 := a1.wrote hM r2
    rw [mupd_id hM] at a2
    have ec : upd (upd H P (.tbl (ps ++ #[rawInt pos.line, rawInt pos.col, .ref c']))) c' (LamX.CodeO c' (X.env.qual ++ "<lambda>")) = upd (upd H c' (LamX.CodeO c' (X.env.qual ++ "<lambda>"))) P (.tbl (ps ++ #[rawInt pos.line, rawInt pos.col, .ref c'])) := by
      funext b
      by_cases h1 : b = c'
      · rw [h1, upd_same, upd_ne (Ne.symm ne), upd_same]
      · rw [upd_ne h1]
        by_cases h2 : b = P
        · rw [h2, upd_same, upd_same]
        · rw [upd_ne h2, upd_ne h2, upd_ne h1]
    rw [ec] at I1
    refine h h'.objs.size c' ((X.mg "__name__").getD .none) ctv _ _ _ I1 s1 a2 upd_same (Heap.get?_push_size _ rfl) ?_ (nofr _ hsz)
    have n1 : h'.objs.size ≠ c' := Nat.ne_of_gt hlt
    have n2 : h'.objs.size ≠ P := Nat.ne_of_gt (Nat.lt_of_lt_of_le (Heap.lt_size hP') hsz)
    rw [upd_ne n2, upd_ne n1]
    exact I.hok.fresh hsz
end
end L3
set_option Elab.async false
set_option linter.all false
set_option maxRecDepth 100000
set_option maxHeartbeats 2000000
namespace L3
open PySem PySem.Spec PyProof.Rows L2
section
variable {X : Cx}
/-- x(lambda: body): P the table of the maker's code, tb what the body does -/
theorem pe_lam {k n j : Nat} {x : Str} {WX : VK → XK} {WV : VK → VK} {P c : Addr} {params : Arguments} {body : Expr} {scope : Scope} {tb : DEX} {p lpos pos : Pos} (T : Taker X.prog X.w X.K X.mg X.base k n x WX WV) (TB : LamX.TabB X.base X.mg c P) (hcode : X.env.code = .ref c) (hr : Room k X.A) (hj : j + n ≤ k) (L : LamX.LamS X.env.scope scope)
    (hbody : ∀ (A : Around) (outer : List Env) (s1 : Shared) (H1 : Hp) (E : XK) (f c' : Addr), Room j (A.deeper (LamX.lamEnv X scope s1.heap.objs.size f c')) → PDEX (lamN X A outer s1 H1 E scope f c') E body tb)
    (hdef : defaultsOf params X.env = ([], []) := by rfl) (hbind : ∀ (q : Str) (cl : List (Str × Addr)) (pm cv ctv : Value), bindArgs (PySem.W.kla_fn "<lambda>" q params body scope cl pm cv ctv) ⟨[], []⟩ = pure [] := by intros; rfl) (hg : Gl X x := by rfl) (hdb : (x == ("__debug__" : Str)) = false := by decide)
    (he : starEach [.Lambda params body scope lpos] X.env = (false, eval (.Lambda params body scope lpos) X.env) :: starEach [] X.env := by rfl) :
    PE X (.Call (.Name x p) [.Lambda params body scope lpos] [] pos) (fun σ H Q => ∃ R F env M, At X.K R F M H ∧ EnvR X.K F σ env ∧ M P = some (.tbl (X.env.qual ++ "<lambda>")) ∧ ∃ Qd Ed, tb env M Qd Ed ∧ KD X.K R F Qd (WV Q) ∧ KX X.K R F Ed (WX Q)) := by
  refine ⟨fun pins s σ H Q I ⟨R, F, env, M, a, en, hM, Qd, Ed, t, kd, kx⟩ => ?_⟩
  obtain ⟨g, hm, hk, run⟩ := T.ex
  refine wpAny_Call_Name_kw (ld_glob I hg hm ?_ hdb)
  refine PySem.W.callWith_K (h₀ := X.base) I.ok.mod.kin hk ?_ he rfl
  (show wpAny _ _ (spliced ((false, eval (.Lambda params body scope lpos) X.env) :: backTo pos (starEach [] X.env))) _ _ s)
  refine Calls.spliced_cons (lam_make3 I a hM TB hcode hdef (L.has I.ok) fun f c' pm ctv H1 F1 s1 I1 s2 a1 hco hf hfn hfr => Calls.spliced_nil ⟨I1.kIn, ?_⟩)
  have C := lam_cal (k := j) (tb := fun E => upX X.K E tb) I1 L hf hfn hfr (hbind _ _ _ _ _) fun A outer s3 H3 E hr3 => hbody A outer s3 H3 E f c' hr3
  refine wpAny_call (codeAny_mono (run X.A X.stack s1 H1 f c' _ _ j Q hr hj I1.kIn I1.env0 C mono_up monoX_up (a1.fz _ _ hco) ⟨R, F1, env, M, Qd, Ed, a1, en.mono s2, t, kd.mono s2, kx.mono s2⟩) fun r s4 hq => ?_)
  cases r with
  | error e => exact passE0 pins σ _ _ e s4 I1 hq
  | ok fl =>
    cases fl with
    | ret u => exact I1.after hq
    | next => exact False.elim hq
    | brk => exact False.elim hq
    | cont => exact False.elim hq
/-- what is told of an exception -/
def xTold (exs : List Str) (Q : Str → D → Mp → Prop) : DX := fun nm ns xs M1 => nm ∈ exs ∧ ∃ w g, findN ns xs "word" = some (.str w) ∧ fieldOf ns xs = some g ∧ Q w g M1
def dTry (P : Addr) (q : Str) (exs : List Str) (tb : DEX) : DE := fun env M Q => M P = some (.tbl q) ∧ tb env M (fun v M1 => Q (.tup [v, .str "", .non]) M1) (xTold exs fun w g M1 => Q (.tup [.non, .str w, g]) M1)
def dRef (P : Addr) (q : Str) (exs : List Str) (tb : DEX) : DE := fun env M Q => M P = some (.tbl q) ∧ tb env M (fun v M1 => Q (.tup [.str "", .non]) M1) (xTold exs fun w g M1 => Q (.tup [.str w, g]) M1)
theorem sok0 : SOk ("" : Str) := by decide +kernel
theorem told_up {K : PySem.W.Frag} {R : Hp} {exs : List Str} {cs : List Value} {Z : Str → D → Mp → Prop} (hcs : ∀ nm ∈ exs, PySem.W.exmAny K (.ref (He.ga K nm)) cs = some true) {F' H' : Hp} {M' : Mp} {nm : Str} {dd : Addr} {ns : List Str} {ds : List D} {xs : List V} (a1 : At K R F' M' H') (fd : F' dd = some (.xd (ns.zip xs))) (hl : ns.length = ds.length) (rs : Reps K F' ds xs) (q : xTold exs Z nm ns ds M')
    (WW : Str → V → Hp → Prop) (hw : ∀ w g, Z w g M' → SOk w → KD K R F' (fun g' M2 => g' = g ∧ M2 = M') (WW w)) : PySem.W.exmAny K (.ref (He.ga K nm)) cs = some true ∧ ∃ nm' dd' R F M ns' xs' ys w g, nm' ∈ exs ∧ (Value.ref (He.ga K nm)) = .ref (He.ga K nm') ∧ some dd = some dd' ∧ At K R F M H' ∧ F dd' = some (.xd (ns'.zip ys)) ∧ ns'.length = xs'.length ∧ Reps K F xs' ys ∧ findN ns' xs' "word" = some (.str w) ∧ fieldOf ns' xs' = some g ∧
      KD K R F (fun g' M2 => g' = g ∧ M2 = M) (WW w) := by
  obtain ⟨hn, w, g, h1, h2, qz⟩ := q
  obtain ⟨_, _, r0⟩ := findN_rep rs h1
  exact ⟨hcs nm hn, nm, dd, R, F', M', ns, ds, xs, w, g, hn, rfl, rfl, a1, fd, hl, rs, h1, h2, hw w g qz r0.2⟩
theorem pd_try {k j : Nat} {P c : Addr} {exs : List Str} {cs : List Value} {params : Arguments} {body : Expr} {scope : Scope} {tb : DEX} {p lpos pos : Pos} (T : TriedOk X.prog X.w X.K X.mg X.base k cs exs) (hcs : ∀ nm ∈ exs, PySem.W.exmAny X.K (.ref (He.ga X.K nm)) cs = some true) (TB : LamX.TabB X.base X.mg c P) (hcode : X.env.code = .ref c) (hr : Room k X.A) (hj : j + 2 ≤ k) (L : LamX.LamS X.env.scope scope)
    (hbody : ∀ (A : Around) (outer : List Env) (s1 : Shared) (H1 : Hp) (E : XK) (f c' : Addr), Room j (A.deeper (LamX.lamEnv X scope s1.heap.objs.size f c')) → PDEX (lamN X A outer s1 H1 E scope f c') E body tb)
    (hdef : defaultsOf params X.env = ([], []) := by rfl) (hbind : ∀ (q : Str) (cl : List (Str × Addr)) (pm cv ctv : Value), bindArgs (PySem.W.kla_fn "<lambda>" q params body scope cl pm cv ctv) ⟨[], []⟩ = pure [] := by intros; rfl) (hg : Gl X "_law_tried" := by rfl)
    (he : starEach [.Lambda params body scope lpos] X.env = (false, eval (.Lambda params body scope lpos) X.env) :: starEach [] X.env := by rfl) :
    PDE X (.Call (.Name "_law_tried" p) [.Lambda params body scope lpos] [] pos) (dTry P (X.env.qual ++ "<lambda>") exs tb) :=
  pe_imp (pe_lam T TB hcode hr hj L hbody hdef hbind hg (by decide) he) fun σ H Q ⟨R, F, env, M, Qd, a, en, ⟨hM, t⟩, k0⟩ => ⟨R, F, env, M, a, en, hM, _, _, t, fun F1 H1 M1 d v s1 a1 r1 q1 p hp => tup_new a1 (ds := [d, .str "", .non]) (vs := [v, .str "", .non]) ⟨v, _, rfl, r1, .str "", _, rfl, ⟨rfl, sok0⟩, .non, _, rfl, rfl, rfl⟩ (k0.mono s1) q1 hp,
    fun F1 H1 M1 nm dd ns ds xs s1 a1 fd hl rs q1 => told_up hcs a1 fd hl rs q1 (fun w v H2 => ∀ p, H2 p = none → Q (.ref p) (upd H2 p (.tup [.non, .str w, v]))) fun w g qz hw F2 H2 M2 g2 v2 s2 a2 r2 q2 p hp => by
      obtain ⟨rfl, rfl⟩ := q2
      exact tup_new a2 (ds := [.non, .str w, g2]) (vs := [.non, .str w, v2]) ⟨.non, _, rfl, rfl, .str w, _, rfl, ⟨rfl, hw⟩, v2, _, rfl, r2, rfl⟩ (k0.mono (s1.trans s2)) qz hp⟩
theorem pd_ref {k j : Nat} {P c : Addr} {exs : List Str} {cs : List Value} {params : Arguments} {body : Expr} {scope : Scope} {tb : DEX} {p lpos pos : Pos} (T : RefusedOk X.prog X.w X.K X.mg X.base k cs exs) (hcs : ∀ nm ∈ exs, PySem.W.exmAny X.K (.ref (He.ga X.K nm)) cs = some true) (TB : LamX.TabB X.base X.mg c P) (hcode : X.env.code = .ref c) (hr : Room k X.A) (hj : j + 3 ≤ k) (L : LamX.LamS X.env.scope scope)
    (hbody : ∀ (A : Around) (outer : List Env) (s1 : Shared) (H1 : Hp) (E : XK) (f c' : Addr), Room j (A.deeper (LamX.lamEnv X scope s1.heap.objs.size f c')) → PDEX (lamN X A outer s1 H1 E scope f c') E body tb)
    (hdef : defaultsOf params X.env = ([], []) := by rfl) (hbind : ∀ (q : Str) (cl : List (Str × Addr)) (pm cv ctv : Value), bindArgs (PySem.W.kla_fn "<lambda>" q params body scope cl pm cv ctv) ⟨[], []⟩ = pure [] := by intros; rfl) (hg : Gl X "_law_refused" := by rfl)
    (he : starEach [.Lambda params body scope lpos] X.env = (false, eval (.Lambda params body scope lpos) X.env) :: starEach [] X.env := by rfl) :
    PDE X (.Call (.Name "_law_refused" p) [.Lambda params body scope lpos] [] pos) (dRef P (X.env.qual ++ "<lambda>") exs tb) :=
  pe_imp (pe_lam T TB hcode hr hj L hbody hdef hbind hg (by decide) he) fun σ H Q ⟨R, F, env, M, Qd, a, en, ⟨hM, t⟩, k0⟩ => ⟨R, F, env, M, a, en, hM, _, _, t, fun F1 H1 M1 d v s1 a1 r1 q1 p hp p2 hp2 => by
      obtain ⟨a2, s2⟩ := a1.laid hp (.tup [v, .str "", .non])
      exact tup_new a2 (ds := [.str "", .non]) (vs := [.str "", .non]) ⟨.str "", _, rfl, ⟨rfl, sok0⟩, .non, _, rfl, rfl, rfl⟩ (k0.mono (s1.trans s2)) q1 hp2,
    fun F1 H1 M1 nm dd ns ds xs s1 a1 fd hl rs q1 => told_up hcs a1 fd hl rs q1 (fun w v H2 => ∀ p, H2 p = none → ∀ p2, upd H2 p (.tup [.non, .str w, v]) p2 = none → Q (.ref p2) (upd (upd H2 p (.tup [.non, .str w, v])) p2 (.tup [.str w, v]))) fun w g qz hw F2 H2 M2 g2 v2 s2 a2 r2 q2 p hp p2 hp2 => by
      obtain ⟨rfl, rfl⟩ := q2
      obtain ⟨a3, s3⟩ := a2.laid hp (.tup [.non, .str w, v2])
      exact tup_new a3 (ds := [.str w, g2]) (vs := [.str w, v2]) ⟨.str w, _, rfl, ⟨rfl, hw⟩, v2, _, rfl, r2.mono s3, rfl⟩ (k0.mono (s1.trans (s2.trans s3))) qz hp2⟩
end
end L3
set_option Elab.async false
set_option linter.all false
set_option maxRecDepth 100000
set_option maxHeartbeats 1000000
namespace L3
open PySem PySem.Spec PyProof.Rows L2
def asT (g : Addr → Option Obj) (n : Nat) : List Addr := He.asD g n ++ [cStatics]
def obsXT (n : Nat) (fb : List (PySem.W.Frag → Bool)) (fa : List He.Fa) (fn : List He.DefD) (tf : List He.Defn) (g : Addr → Option Obj) : AlX × Bool := (obsX fb fa fn (He.frT g (asT g n)), He.tabsB g tf (He.frT g (asT g n)))
structure SaysXT (fb : List (PySem.W.Frag → Bool)) (fa : List He.Fa) (fn : List He.DefD) (tf : List He.Defn) (h : Heap) (K : PySem.W.Frag) : Prop where
  c : SaysX fb fa fn K
  hd : ∀ p ∈ tf, PySem.W.codeHdIn K (He.cT K p).1 (He.cT K p).2 = true
  out : ∀ p ∈ tf, K.lookup (He.cT K p).2 = none
  empty : ∀ p ∈ tf, h.get? (He.cT K p).2 = some { cls := .none, data := .fields #[] }
theorem saysXT_of {n : Nat} {fb : List (PySem.W.Frag → Bool)} {fa : List He.Fa} {fn : List He.DefD} {tf : List He.Defn} {h : Heap} (e : obsXT n fb fa fn tf h.get? = (valX fn, true)) : SaysXT fb fa fn tf h (He.frT h.get? (asT h.get? n)) := by
  have e1 : obsX fb fa fn (He.frT h.get? (asT h.get? n)) = valX fn := congrArg (fun z : AlX × Bool => z.1) e
  have e2 : He.tabsB h.get? tf (He.frT h.get? (asT h.get? n)) = true := congrArg (fun z : AlX × Bool => z.2) e
  generalize hK : He.frT h.get? (asT h.get? n) = K at e1 e2
  have key : ∀ p ∈ tf, PySem.W.codeHdIn K (He.cT K p).1 (He.cT K p).2 = true ∧ ∃ o, h.get? (He.cT K p).2 = some o ∧ He.emptyTab o = true := fun p hp => by
    obtain ⟨z1, z2⟩ := He.ba (List.all_eq_true.mp e2 p hp)
    refine ⟨z1, ?_⟩
    cases q : h.get? (He.cT K p).2 with
    | none => rw [q] at z2; cases z2
    | some o => rw [q] at z2; exact ⟨o, rfl, z2⟩
  refine ⟨e1, fun p hp => (key p hp).1, fun p hp => ?_, fun p hp => ?_⟩
  · obtain ⟨_, o, q, z⟩ := key p hp
    rw [← hK] at q ⊢
    exact He.frT_none q z
  · obtain ⟨_, o, q, z⟩ := key p hp
    rw [q, He.emptyTab_eq z]
/-- a law's start, its own table empty -/
theorem law_startT {K : PySem.W.Frag} {H : Hp} {a P : Addr} {q : Str} {ns : List Int} {sp : SpD} {E : XK} (hP : H P = some (.tbl #[])) (hS : SqL K H a (ns.map V.int)) (h : sp [.lsk (ns.map D.int)] (mupd (fun _ => none) P (.tbl q)) (fun d _ => d = .bl true) X0) : upSp K 1 sp [.ref a] H (fun v _ => v = .bl true) E := by
  have hne : a ≠ P ∨ ∃ o, K.lookup a = some o := by
    rcases hS with (h1 | ⟨o, h1⟩) | ⟨o, _, _, h1, _⟩
    · exact .inl fun z => by rw [z, hP] at h1; cases h1
    · exact .inl fun z => by rw [z, hP] at h1; cases h1
    · exact .inr ⟨o, h1⟩
  let F : Hp := fun b => if b = P then none else H b
  have sF : Same F H := fun b o e => by
    show H b = some o
    have e2 : (if b = P then none else H b) = some o := e
    split at e2
    · cases e2
    · exact e2
  have hS2 : SqL K F a (ns.map V.int) := by
    rcases hS with (h1 | ⟨o, h1⟩) | h1
    · exact .inl (.inl (by show (if a = P then none else H a) = _; rw [if_neg (fun z => by rw [z, hP] at h1; cases h1)]; exact h1))
    · exact .inl (.inr ⟨o, by show (if a = P then none else H a) = _; rw [if_neg (fun z => by rw [z, hP] at h1; cases h1)]; exact h1⟩)
    · exact .inr h1
  refine ⟨fun _ => none, F, mupd (fun _ => none) P (.tbl q), [.lsk (ns.map D.int)], _, _, ⟨sF, fun b o e => ?_, fun _ _ e => (by cases e)⟩, ⟨.ref a, [], rfl, ⟨a, _, rfl, hS2, Reps.ofInts ns⟩, rfl⟩, rfl, h, fun F' H' M' d v s at_ r q => ?_, kx0⟩
  · by_cases hb : b = P
    · subst hb
      rw [mupd_same] at e
      cases e
      exact ⟨if_pos rfl, _, hP, #[], rfl, True.intro, fun pos cv z => by simp [codeAmong] at z⟩
    · rw [mupd_ne hb] at e; cases e
  · subst q
    exact r
end L3
set_option Elab.async false
set_option linter.all false
set_option maxRecDepth 100000
set_option maxHeartbeats 1000000
namespace L3
open PySem PySem.Spec PyProof.Rows L2 ClX
def oexB (b : Bs) (K : PySem.W.Frag) (C : Addr) : Bool := (match K.lookup C with
  | some ⟨.type "type", _, .cls cd, sl⟩ => (match cd.mro, sl.toList with
    | .ref C2 :: bm, [_, _, _, _, some (.builtin n), _] => decide (C2 = C) && (decide (n = b.new) && (!cd.hasDel && (cd.hasDict && b.refs bm)))
    | _, _ => false)
  | _ => false) && (He.eqO (PySem.W.findIn K (.ref C) "__setattr__") (some (some (.builtin "object.__setattr__"))) && (decide (PySem.W.subIn K (.ref C) (.type "BaseException") = some true) && (decide (PySem.W.typeIn K (.ref C) = some (.type "type")) && PySem.W.keepIn K (.ref C))))
theorem oexB_ok {b : Bs} {K : PySem.W.Frag} {C : Addr} (h : oexB b K C = true) : OexB K C b := by
  obtain ⟨h1, h⟩ := He.ba h
  obtain ⟨h2, h⟩ := He.ba h
  obtain ⟨h3, h⟩ := He.ba h
  obtain ⟨h4, h5⟩ := He.ba h
  refine ⟨?_, He.eqO_ok h2, of_decide_eq_true h3, of_decide_eq_true h4, h5⟩
  split at h1
  · rename_i dd cd sl ho
    split at h1
    · rename_i C2 bm k0 k1 k2 k3 n k5 hm hs
      obtain ⟨z1, h1⟩ := He.ba h1
      obtain ⟨z2, h1⟩ := He.ba h1
      obtain ⟨z3, h1⟩ := He.ba h1
      obtain ⟨z4, z5⟩ := He.ba h1
      have z1 := of_decide_eq_true z1
      have z2 := of_decide_eq_true z2
      obtain ⟨nm, bs, mro, ns, qn, hdct, sn, sub, ab, col, del⟩ := cd
      dsimp only at hm z3 z4
      subst hm z1 z2 z4
      have e : sl = #[k0, k1, k2, k3, some (.builtin b.new), k5] := by
        obtain ⟨l⟩ := sl
        simp only at hs
        rw [hs]
      subst e
      have z3 : del = false := by simpa using z3
      subst z3
      exact ⟨nm, qn, ns, bs, bm, sn, sub, ab, col, dd, k0, k1, k2, k3, k5, ho, b.refs_ok _ z5⟩
    · cases h1
  · cases h1
def badB (b : Bs) (nm : Str) (fs : List Str) (cs : List Str) (K : PySem.W.Frag) : Bool := oexB b K (He.ga K nm) && (He.eqO (PySem.W.findIn K (.ref (He.ga K nm)) "word") (some none) && (fs.all (fun f => He.eqO (PySem.W.findIn K (.ref (He.ga K nm)) f) (some none)) && (He.eqO (PySem.W.findIn K (.ref (He.ga K nm)) "__init__") (some (some (.ref (He.ma K (He.ga K nm) "__init__")))) &&
  (decide (PySem.W.typeIn K (.ref (He.ma K (He.ga K nm) "__init__")) = some (.type "function")) && (xfB K (He.ga K nm) && (decide (PySem.W.exmAny K (.ref (He.ga K nm)) (cs.map fun c => .ref (He.ga K c)) = some true) && He.eqO (PySem.W.nsIn K mainGlobals nm) (some (some (.ref (He.ga K nm))))))))))
structure BadF (K : PySem.W.Frag) (mg : Str → Option Value) (b : Bs) (nm : Str) (fs : List Str) (cs : List Str) : Prop where
  c : BadC K nm fs b
  ini : PySem.W.findIn K (.ref (He.ga K nm)) "__init__" = some (some (.ref (He.ma K (He.ga K nm) "__init__")))
  ty : PySem.W.typeIn K (.ref (He.ma K (He.ga K nm) "__init__")) = some (.type "function")
  xf : XfC K (He.ga K nm)
  ex : PySem.W.exmAny K (.ref (He.ga K nm)) (cs.map fun c => .ref (He.ga K c)) = some true
  gl : mg nm = some (.ref (He.ga K nm))
theorem badB_ok {K : PySem.W.Frag} {h : Heap} {mg : Str → Option Value} (X : K.In h) (G : h.Ns mainGlobals mg) {bb : Bs} {nm : Str} {fs cs : List Str} (b : badB bb nm fs cs K = true) : BadF K mg bb nm fs cs := by
  obtain ⟨h1, b⟩ := He.ba b
  obtain ⟨h2, b⟩ := He.ba b
  obtain ⟨h3, b⟩ := He.ba b
  obtain ⟨h4, b⟩ := He.ba b
  obtain ⟨h5, b⟩ := He.ba b
  obtain ⟨h6, b⟩ := He.ba b
  obtain ⟨h7, h8⟩ := He.ba b
  exact ⟨⟨oexB_ok h1, He.eqO_ok h2, fun f hf => He.eqO_ok (List.all_eq_true.mp h3 f hf)⟩, He.eqO_ok h4, of_decide_eq_true h5, xfB_ok h6, of_decide_eq_true h7, He.glo_ok X G (x := nm) h8⟩
def inkB (bb : Bs) (x : Str) (K : PySem.W.Frag) : Bool := PySem.W.readsIn K (He.ga K x) (.type "type") && (decide (PySem.W.specialIn K (.ref (He.ga K x)) "__getattribute__" = some (some (.builtin "type.__getattribute__"))) && ((match PySem.W.findCls K (.ref (He.ga K x)) (.type "type") "__init__" with
  | some (.val (.ref a)) => decide (a = He.ma K (He.ga K x) "__init__")
  | _ => false) && ((match PySem.W.findCls K (.type bb.nm) (.type "type") "__init__" with
  | some (.val (.builtin n)) => decide (n = bb.ini)
  | _ => false) && (PySem.W.keepIn K (.ref (He.ma K (He.ga K x) "__init__")) && He.eqO (PySem.W.nsIn K mainGlobals x) (some (some (.ref (He.ga K x))))))))
structure InkF (K : PySem.W.Frag) (mg : Str → Option Value) (bb : Bs) (x : Str) : Prop where
  r : CRead K (He.ga K x) (.type "type")
  v : CVal K (He.ga K x) (.type "type") "__init__" (.ref (He.ma K (He.ga K x) "__init__")) (.ref (He.ma K (He.ga K x) "__init__"))
  ve : bb.Finds K
  kp : PySem.W.keepIn K (.ref (He.ma K (He.ga K x) "__init__")) = true
  gl : mg x = some (.ref (He.ga K x))
theorem inkB_ok {K : PySem.W.Frag} {h : Heap} {mg : Str → Option Value} (X : K.In h) (G : h.Ns mainGlobals mg) {bb : Bs} {x : Str} (b : inkB bb x K = true) : InkF K mg bb x := by
  obtain ⟨h1, b⟩ := He.ba b
  obtain ⟨h2, b⟩ := He.ba b
  obtain ⟨h3, b⟩ := He.ba b
  obtain ⟨h4, b⟩ := He.ba b
  obtain ⟨h5, h6⟩ := He.ba b
  refine ⟨⟨h1, of_decide_eq_true h2⟩, ⟨?_, rfl⟩, ?_, h5, He.glo_ok X G (x := x) h6⟩
  · split at h3
    · rename_i a e
      rw [e, of_decide_eq_true h3]
    · cases h3
  · split at h4
    · rename_i n e
      unfold Bs.Finds; rw [e, of_decide_eq_true h4]
    · cases h4
structure InkOk (P : Program) (w : World) (K : PySem.W.Frag) (mg : Str → Option Value) (base : Heap) (k : Nat) (bb : Bs) (x : Str) : Prop where
  f : InkF K mg bb x
  ex : ∃ fd ps, FnOk P w K mg base (L2N.CX P w) k (He.ma K (He.ga K x) "__init__") fd ps (spInk K bb) ∧ Binds K fd ps []
theorem InkOk.mono {P : Program} {w : World} {K : PySem.W.Frag} {mg : Str → Option Value} {base : Heap} {j k : Nat} {bb : Bs} {x : Str} (o : InkOk P w K mg base j bb x) (h : j ≤ k) : InkOk P w K mg base k bb x := ⟨o.f, let ⟨fd, ps, F, b⟩ := o.ex; ⟨fd, ps, F.mono h, b⟩⟩
end L3
set_option Elab.async false
set_option linter.all false
set_option maxRecDepth 100000
set_option maxHeartbeats 1000000
namespace L3
open PySem PySem.Spec PyProof.Rows L2 NS
/-- what a turn of a clause does behind its tests -/
abbrev Part := Value → Env → Sem Unit
/-- what stands behind the tests, from which Nx is reached -/
abbrev TB := L2.St → Hp → (Hp → Prop) → Prop
section
variable {Y : Cx} {D : Addr} {e : Expr} {k : Nat} {c : Comprehension} {part : Part} {g : TG} {tt : TT} {tb : TB} {vs vb : List Nat}
theorem FpOk.of {pins : List (Addr × Obj)} {H H' : Hp} {b : Addr} (f : FpOk Y pins H b) (h : H' b = none) : FpOk Y pins H' b := ⟨h, f.2⟩
end
end L3
set_option Elab.async false
set_option linter.all false
set_option maxRecDepth 100000
set_option maxHeartbeats 1000000
set_option Elab.async false
set_option linter.all false
set_option maxRecDepth 100000
set_option maxHeartbeats 1000000
namespace L3
open PySem PySem.Spec PyProof.Rows L2 NS
theorem dk_new {P : Program} {w : World} {H : Hp} {h : Heap} {a : Addr} {Ls : List DRow} (D : DkAt w a Ls h) : ObjOk P w H h a (DkO w a Ls) := by
  obtain ⟨_, o, _, _, ho, _⟩ := id D
  exact ⟨D, ⟨o, ho⟩, fun h1 h2 ⟨z, o, es, ep, ho, q⟩ k => ⟨z, o, es, ep, k o ho, q⟩⟩
section
variable {X : Cx} {e : Expr} {te to ti : DE} {pos tpos p : Pos} {o i : Expr}
def DkRd (w : World) (H : Hp) (a : Addr) (Ls : List DRow) : Prop := H a = some (DkO w a Ls) ∨ ∃ o, H a = some (.frz o (DkO w a Ls))
theorem DkRd.at {pins : List (Addr × Obj)} {σ : L2.St} {H : Hp} {s : Shared} {a : Addr} {Ls : List DRow} (I : Inv X pins σ H s) (h : DkRd X.w H a Ls) : DkAt X.w a Ls s.heap := by
  rcases h with h | ⟨o, h⟩
  · exact (I.hok a _ h).1
  · exact (I.hok a _ h).2.1
end
end L3
set_option Elab.async false
set_option linter.all false
set_option maxRecDepth 100000
set_option maxHeartbeats 1000000
set_option Elab.async false
set_option linter.all false
set_option maxRecDepth 100000
set_option maxHeartbeats 2000000
set_option Elab.async false
set_option linter.all false
set_option maxRecDepth 100000
set_option maxHeartbeats 1000000
set_option Elab.async false
set_option linter.all false
set_option maxRecDepth 100000
set_option maxHeartbeats 1000000
namespace L3
open PySem PySem.Spec PyProof.Rows L2
def lookS : List (Str × D) → Str → Option D
  | (k, d) :: r, z => if k = z then some d else lookS r z
  | [], _ => none
/-- the module's dict at a: its keys, their values as data -/
structure TblAt (K : PySem.W.Frag) (w : World) (a : Addr) (rows : List (Str × D)) : Prop where
  kd : ∃ es n, KDict K w a es n
  has : ∀ z d, lookS rows z = some d → ∃ u v, PySem.W.nsIn K a z = some (some u) ∧ RelV v u ∧ ∀ F, Rep K F d v
  no : ∀ z, lookS rows z = none → PySem.W.nsIn K a z = some none
section
variable {X : Cx} {e i f : Expr} {te ti tf : DE} {x : Str} {a : Addr} {rows : List (Str × D)} {pos apos p : Pos}
/-- d.get(z, y) -/
def tGetT (K : PySem.W.Frag) (a : Addr) (ty tx : TE) : TE := fun σ H Q => ty σ H fun y H2 => tx σ H2 fun z H3 => ∃ s, y = .str s ∧ ((PySem.W.nsIn K a s = some none ∧ Q z H3) ∨ ∃ u v, PySem.W.nsIn K a s = some (some u) ∧ RelV v u ∧ Q v H3)
theorem pe_getT {ty tx : TE} {es : Array DictEntry} {n : Nat} (hmg : X.mg x = some (.ref a)) (D : KDict X.K X.w a es n) (he : PE X i ty) (hf : PE X f tx) (hg : Gl X x) (hd : (x == ("__debug__" : Str)) = false) (m : M2 X (.Name x p) "get" apos i f pos) : PE X (.Call (.Attribute (.Name x p) "get" apos) [i, f] [] pos) (tGetT X.K a ty tx) := by
  refine ⟨fun pins s σ H Q I h => ?_⟩
  refine wpAny_Call_method m.base m.few m.line PySem.F.plainAttrs_dict PySem.F.slot_dict_get PySem.F.type_dict_get (thn ((pe_glob (v := .ref a) hg hmg rfl hd).run pins s σ H (fun v H1 => v = .ref a ∧ H1 = H) I ⟨rfl, rfl⟩) fun u s1 ⟨y0, H1, I1, rx, ey, eH⟩ => ?_)
  subst ey eH
  obtain rfl : u = Value.ref a := rx
  have hm := PySem.W.mapOf_K (prog := X.prog) (w := X.w) I1.kIn D.at_ D.lit
  refine ⟨hm.typeIs, hm.noDict, ?_⟩
  rw [m.trees]
  refine Calls.callWith_builtin rfl (Calls.evalArgs_plain (Calls.spliced_cons (thn (he.run pins s1 σ _ _ I1 h) fun iv s2 ⟨y, H2, I2, ry, q2⟩ =>
    Calls.spliced_cons (thn (hf.run pins s2 σ H2 _ I2 q2) fun fv s3 ⟨z, H3, I3, rz, t, ey, q3⟩ => Calls.spliced_nil ?_))))
  subst ey
  obtain ⟨tk, rfl⟩ := ry
  have hm3 := PySem.W.mapOf_K (prog := X.prog) (w := X.w) I3.kIn D.at_ D.lit
  refine call_meetsIn PySem.F.slot_dict_get hm3.typeIs PySem.F.entry_dict_get (PySem.F.args_dict_get_3 _ _ _) (meets_dict_get_default (strKind X.prog X.w) a (PySem.strKind_is X.prog X.w t tk) D.low _) ⟨_, hm3, ?_⟩
  rcases q3 with ⟨e1, q⟩ | ⟨u, v, e1, r, q⟩
  · rw [PySem.W.find_K D.at_ e1]
    exact ⟨z, H3, I3.kept (t' := _) fun b o e => e, rz, q⟩
  · rw [PySem.W.find_K D.at_ e1]
    exact ⟨v, H3, I3.kept (t' := _) fun b o e => e, r, q⟩
def dGetT (rows : List (Str × D)) (ti tf : DE) : DE := fun env M Q => ti env M fun d M1 => tf env M1 fun e M2 => match d with
  | .str z => Q ((lookS rows z).getD e) M2
  | _ => False
theorem pd_getT (h : X.mg x = some (.ref a) ∧ TblAt X.K X.w a rows) (hi : PDE X i ti) (hf : PDE X f tf) (m : M2 X (.Name x p) "get" apos i f pos := by exact ⟨rfl, rfl, rfl, rfl⟩) (hg : Gl X x := by rfl) (hd : (x == ("__debug__" : Str)) = false := by decide) : PDE X (.Call (.Attribute (.Name x p) "get" apos) [i, f] [] pos) (dGetT rows ti tf) := by
  obtain ⟨es, n, D⟩ := h.2.kd
  refine pe_imp (pe_getT h.1 D hi hf hg hd m) fun σ H Q ⟨R, F, env, M, Qd, at_, en, hh, k⟩ => ⟨R, F, env, M, _, at_, en, hh, fun F1 H1 M1 d v s1 a1 r1 q1 => ⟨R, F1, env, M1, _, a1, en.mono s1, q1, fun F2 H2 M2 d2 v2 s2 a2 r2 q2 => ?_⟩⟩
  cases d with
  | str z =>
    refine ⟨z, r1.1, ?_⟩
    cases e : lookS rows z with
    | none =>
      have q2 : Qd ((lookS rows z).getD d2) M2 := q2
      rw [e] at q2
      exact .inl ⟨h.2.no z e, k F2 H2 M2 d2 v2 (s1.trans s2) a2 r2 q2⟩
    | some d =>
      have q2 : Qd ((lookS rows z).getD d2) M2 := q2
      rw [e] at q2
      obtain ⟨u, v, h1, h2, h3⟩ := h.2.has z d e
      exact .inr ⟨u, v, h1, h2, k F2 H2 M2 d v (s1.trans s2) a2 (h3 F2) q2⟩
  | _ => exact q2.elim
end
/-- the values at the module's dict's keys, in order -/
def tblB (x : Str) (ks : List Str) (vs : List He.Dv) (K : PySem.W.Frag) : Bool := match K.lookup (He.ga K x) with
  | some ⟨_, _, .dict es _, _⟩ => decide (es.toList.map (fun e => He.keyOf e |>.map (·.1)) = ks.map some) && He.relAll (vs.map (He.Dv.v K)) (es.toList.map (·.val))
  | _ => false
def rowsOf : List Str → List D → List (Str × D)
  | k :: ks, d :: ds => (k, d) :: rowsOf ks ds
  | _, _ => []
theorem isStr_of {e : DictEntry} {k z : Str} (h : (He.keyOf e).map (·.1) = some k) : e.key.isStr z = decide (k = z) ∧ e.refKey = false := by
  unfold He.keyOf at h
  cases e with
  | mk hsh key val =>
    cases key with
    | str y t =>
      have h : some y = some k := h
      cases h
      refine ⟨?_, rfl⟩
      show (_ : Bool) = _
      first
        | rfl
        | (simp only [Value.isStr]; try rw [Bool.eq_iff_iff]; simp)
    | _ => cases h
theorem tbl_find {K : PySem.W.Frag} : ∀ {l : List DictEntry} {ks : List Str} {vs : List He.Dv} {ds : List D}, l.map (fun e => He.keyOf e |>.map (·.1)) = ks.map some → He.relAll (vs.map (He.Dv.v K)) (l.map (·.val)) = true → vs.length = ds.length → (∀ (j : Nat) (v : He.Dv) (d : D), vs[j]? = some v → ds[j]? = some d → ∀ F, Rep K F d (He.Dv.v K v)) →
    (∀ z d, lookS (rowsOf ks ds) z = some d → ∃ e v, l.find? (·.key.isStr z) = some e ∧ RelV v e.val ∧ ∀ F, Rep K F d v) ∧ (∀ z, lookS (rowsOf ks ds) z = none → l.find? (·.key.isStr z) = none) ∧ (l.any (·.refKey)) = false
  | [], ks, vs, ds, h1, h2, hl, hr => by
    cases ks with
    | cons _ _ => cases h1
    | nil => exact ⟨(fun z d h => by cases ds <;> cases h), fun z _ => rfl, rfl⟩
  | e :: l, ks, vs, ds, h1, h2, hl, hr => by
    cases ks with
    | nil => cases h1
    | cons k ks =>
      rw [List.map_cons, List.map_cons] at h1
      injection h1 with h1 h1'
      cases vs with
      | nil => cases h2
      | cons v vs =>
        cases ds with
        | nil => cases hl
        | cons d ds =>
          obtain ⟨z1, z2⟩ := He.ba (show (He.relB (He.Dv.v K v) e.val && He.relAll (vs.map (He.Dv.v K)) (l.map (·.val))) = true from h2)
          obtain ⟨i1, i2, i3⟩ := tbl_find (K := K) h1' z2 (by simpa using hl) fun j v d hv hd => hr (j + 1) v d (by simpa using hv) (by simpa using hd)
          refine ⟨fun z d' h => ?_, fun z h => ?_, ?_⟩
          · obtain ⟨s1, s2⟩ := isStr_of (z := z) h1
            have h : (if k = z then some d else lookS (rowsOf ks ds) z) = some d' := h
            rw [List.find?_cons, s1]
            by_cases c : k = z
            · rw [if_pos c] at h; cases h
              rw [decide_eq_true c]
              exact ⟨e, _, rfl, He.relB_ok z1, hr 0 v d rfl rfl⟩
            · rw [if_neg c] at h
              rw [decide_eq_false c]
              exact i1 z d' h
          · obtain ⟨s1, s2⟩ := isStr_of (z := z) h1
            have h : (if k = z then some d else lookS (rowsOf ks ds) z) = none := h
            rw [List.find?_cons, s1]
            by_cases c : k = z
            · rw [if_pos c] at h; cases h
            · rw [if_neg c] at h
              rw [decide_eq_false c]
              exact i2 z h
          · rw [List.any_cons, (isStr_of (z := k) h1).2, i3]; rfl
theorem tbl_ok {K : PySem.W.Frag} {w : World} {x : Str} {ks : List Str} {vs : List He.Dv} {ds : List D} (kd : ∃ es n, KDict K w (He.ga K x) es n) (h : tblB x ks vs K = true) (hl : vs.length = ds.length) (hr : ∀ (j : Nat) (v : He.Dv) (d : D), vs[j]? = some v → ds[j]? = some d → ∀ F, Rep K F d (He.Dv.v K v)) : TblAt K w (He.ga K x) (rowsOf ks ds) := by
  obtain ⟨es, n, D⟩ := kd
  unfold tblB at h
  rw [D.at_] at h
  obtain ⟨h1, h2⟩ := He.ba (show (decide (es.toList.map (fun e => He.keyOf e |>.map (·.1)) = ks.map some) && He.relAll (vs.map (He.Dv.v K)) (es.toList.map (·.val))) = true from h)
  obtain ⟨i1, i2, i3⟩ := tbl_find (of_decide_eq_true h1) h2 hl hr
  have ns : ∀ z, PySem.W.nsIn K (He.ga K x) z = (match es.toList.find? (·.key.isStr z) with
      | some e => some (some e.val)
      | none => if es.toList.any (·.refKey) then none else some none) := fun z => by
    unfold PySem.W.nsIn
    rw [D.at_]
    rfl
  refine ⟨⟨es, n, D⟩, fun z d hz => ?_, fun z hz => ?_⟩
  · obtain ⟨e, v, e1, e2, e3⟩ := i1 z d hz
    exact ⟨e.val, v, by rw [ns, e1], e2, e3⟩
  · rw [ns, i2 z hz, i3]; rfl
theorem tbl_strs {K : PySem.W.Frag} {w : World} {x : Str} {ks zs : List Str} (kd : ∃ es n, KDict K w (He.ga K x) es n) (h : tblB x ks (zs.map He.Dv.str) K = true) (ok : ∀ z ∈ zs, SOk z) : TblAt K w (He.ga K x) (rowsOf ks (zs.map D.str)) :=
  tbl_ok kd h (by rw [List.length_map, List.length_map]) fun j v d hv hd F => by
    rw [List.getElem?_map] at hv hd
    obtain ⟨z, hz, rfl⟩ := Option.map_eq_some_iff.mp hv
    rw [hz] at hd
    cases hd
    exact ⟨rfl, ok z (List.mem_of_getElem? hz)⟩
abbrev AlD : Type := (AlX × Bool) × List (Option (List (Option (Str × Int))))
def obsXD (n : Nat) (fb : List (PySem.W.Frag → Bool)) (fa : List He.Fa) (fn : List He.DefD) (tf : List He.Defn) (ts : List He.Tab) (g : Addr → Option Obj) : AlD := (obsXT n fb fa fn tf g, ts.map fun t => He.dicW (He.frT g (asT g n)) (t.1 (He.frT g (asT g n))))
def valXD (fn : List He.DefD) (ts : List He.Tab) (w : World) : AlD := ((valX fn, true), ts.map fun t => some (He.keysIn w.params t.2))
structure SaysXD (fb : List (PySem.W.Frag → Bool)) (fa : List He.Fa) (fn : List He.DefD) (tf : List He.Defn) (ts : List He.Tab) (w : World) (h : Heap) (K : PySem.W.Frag) : Prop extends SaysXT fb fa fn tf h K where
  tab : ∀ t ∈ ts, ∃ es n, KDict K w (t.1 K) es n
theorem saysXD_of {n : Nat} {fb : List (PySem.W.Frag → Bool)} {fa : List He.Fa} {fn : List He.DefD} {tf : List He.Defn} {ts : List He.Tab} {w : World} {h : Heap} (e : obsXD n fb fa fn tf ts h.get? = valXD fn ts w) : SaysXD fb fa fn tf ts w h (He.frT h.get? (asT h.get? n)) := by
  refine ⟨saysXT_of (congrArg (fun z : AlD => z.1) e), fun t ht => ?_⟩
  have e2 : (ts.map fun t => He.dicW (He.frT h.get? (asT h.get? n)) (t.1 (He.frT h.get? (asT h.get? n)))) = ts.map fun t => some (He.keysIn w.params t.2) := congrArg (fun z : AlD => z.2) e
  obtain ⟨i, hi⟩ := List.getElem?_of_mem ht
  have e3 := congrArg (fun l => l[i]?) e2
  simp only [List.getElem?_map, hi, Option.map_some] at e3
  exact He.dicW_ok (Option.some.inj e3)
def obsPD (n : Nat) (fb : List (PySem.W.Frag → Bool)) (fa : List He.Fa) (fn : List He.DefD) (tf : List He.Defn) (ts : List He.Tab) (s : Shared) : AlD := match HandSHeadRun.treeOf s with
  | some x => HandSHeadRun.frS x fun x => obsXD n fb fa fn tf ts (HandSHeadRun.getT x)
  | none => (((false, He.valD fn), false), [])
theorem obsPD_ok {n : Nat} {fb : List (PySem.W.Frag → Bool)} {fa : List He.Fa} {fn : List He.DefD} {tf : List He.Defn} {ts : List He.Tab} {w : World} {s : Shared} (h : obsPD n fb fa fn tf ts s = valXD fn ts w) : obsXD n fb fa fn tf ts s.heap.get? = valXD fn ts w := by
  unfold obsPD at h
  cases e : HandSHeadRun.treeOf s with
  | none =>
    rw [e] at h
    have := congrArg (fun z : AlD => z.1.2) h
    cases this
  | some x =>
    rw [e] at h
    have h2 : (HandSHeadRun.frS x fun x => obsXD n fb fa fn tf ts (HandSHeadRun.getT x)) = valXD fn ts w := h
    rw [HandSHeadRun.frS_eq] at h2
    have ex := (HandSHeadRun.treeOf_eq e).1
    have eg : HandSHeadRun.getT x = s.heap.get? := funext fun a => by rw [HandSHeadRun.getT_eq, ex]
    rw [eg] at h2
    exact h2
def hookPD (n : Nat) (fb : List (PySem.W.Frag → Bool)) (fa : List He.Fa) (fn : List He.DefD) (tf : List He.Defn) (ts : List He.Tab) : PySem.W.Hook where
  α := AlD
  obs := fun s => obsPD n fb fa fn tf ts s
  val := fun w => valXD fn ts w
  says := fun w h => ∃ K : PySem.W.Frag, K.In h ∧ SaysXD fb fa fn tf ts w h K
  of := fun _ _ e => ⟨_, He.frT_in, saysXD_of (obsPD_ok e)⟩
  keeps := fun _ _ _ ⟨K, hK, c⟩ k => ⟨K, PySem.W.Frag.In.keeps hK k, ⟨⟨c.c, c.hd, c.out, fun p hp => k _ _ (c.empty p hp)⟩, c.tab⟩⟩
end L3
set_option Elab.async false
set_option linter.all false
set_option maxRecDepth 100000
set_option maxHeartbeats 1000000
set_option Elab.async false
set_option linter.all false
set_option maxRecDepth 100000
set_option maxHeartbeats 1000000
namespace L3
open PySem PySem.Spec PyProof.Rows L2 ClX
local macro_rules | `(tactic| walk_at "w") => `(tactic| conv => whnf)
section
variable {X : Cx}
theorem pv (i : Nat) {x : Str} {pos : Pos} (hN : X.N[i]? = some x := by rfl) (hv : Vis X.env.scope x := by first | exact Or.inl rfl | exact Or.inr (Or.inl rfl) | exact Or.inr (Or.inr rfl)) (hd : (x == ("__debug__" : Str)) = false := by decide)
    (hcd : (x == ("__classdict__" : Str)) = false := by decide) : PE X (.Name x pos) (tVar i) := pe_var hN hv hd hcd
theorem pe_ink {k : Nat} {bb : Bs} {x : Str} {e : Expr} {es : List Expr} {t : TA} {p1 p2 pos : Pos} (o : InkOk X.prog X.w X.K X.mg X.base k bb x) (hr : Room k X.A) (ha : PA X (e :: es) t) {pl : Sem Bool} (hg : Gl X x := by rfl) (hdb : (x == ("__debug__" : Str)) = false := by decide)
    (hc : eval (.Call (.Attribute (.Name x p1) "__init__" p2) (e :: es) [] pos) X.env = (do
      let ov ← eval (.Name x p1) X.env
      standAt p2.atName
      let (f, first) ← holding [ov] (getMethod ov "__init__" pl)
      callWith pos f first (backTo pos (starEach (e :: es) X.env)) (backToKw pos (keywordEach [] X.env))) := by rfl)
    (he : starEach (e :: es) X.env = (false, eval e X.env) :: starEach es X.env := by rfl) (hpl : (backTo pos (starEach es X.env)).any (·.1) = false := by rfl) :
    PE X (.Call (.Attribute (.Name x p1) "__init__" p2) (e :: es) [] pos) (tCall (spInk X.K bb) [] E0 t) := by
  obtain ⟨fd, ps, F, b⟩ := o.ex
  exact pe_clsInit (pl := pl) hg o.f.gl o.f.r o.f.v o.f.kp F hr b passE0 ha hc he hpl (hdb := hdb)
end
section
variable {P : Program} {w : World} {K : PySem.W.Frag} {mg : Str → Option Value} {base : Heap} {k : Nat} {st : Stmt} {nm : Str} {fs cs : List Str} {bb : Bs}
abbrev inkN : List Str := ["self", "word"]
abbrev tInk (K : PySem.W.Frag) (bb : Bs) : TS := tSeq (tDrop (tBiI K bb (tCons (tVar 0) (tCons (tVar 1) tNil)))) (tOsb K bb "word" (tVar 0) (tVar 1))
theorem inkOk_of {x q : Str} (f : InkF K mg bb x) {fd : FuncData} {dvs : List V} (F : FunD K "__init__" q (defArgs st) (defBody st) (defScope st) dvs [] (He.ma K (He.ga K x) "__init__") fd) (hd : dvs.length = 1) (S : FnScope inkN inkN (defScope st))
    (bind : ∀ (T : Addr) (kV doc pm : Value) (an : Option Addr) (cdv ct : Value) (us its : List Value), us.length = 2 → its.length = 1 → ∃ k, bindArgs (PySem.W.fnOf "__init__" q (defArgs st) (defBody st) (defScope st) (.ref T) kV doc pm an cdv ct) ⟨us, []⟩ = seqItems? (.ref T) >>= k ∧ k (some its.toArray) = pure (inkN.zip (us ++ its.drop 1)))
    (hb : ∀ cdv A outer s H E, PSs (bodyX P w K mg base inkN q st (He.ma K (He.ga K x) "__init__") cdv A outer s H E) (defBody st) (tInk K bb)) : InkOk P w K mg base (k + 1) bb x := by
  obtain ⟨ds, h1, h2⟩ := F.binds1 (ps := inkN) 2 1 (fun e => by rw [e] at hd; cases hd) (by rw [hd]; rfl) fun T kV doc pm an cdv ct us its hu hi => bind T kV doc pm an cdv ct us its hu (by rw [hi, hd])
  have e : dvs.drop 1 = [] := List.drop_eq_nil_of_le (by omega)
  rw [e] at h1
  cases h1
  exact ⟨f, fd, inkN, F.ok S (fun vs H Q E ⟨a, C, w, e, _⟩ => by rw [e]; rfl) (fun cdv A outer s H vs Q E hr h => ⟨_, hb cdv A outer s H E, ink_run h⟩), h2⟩
abbrev badN (fs : List Str) : List Str := "self" :: fs
theorem badOk_of1 {g : Str} (f : BadF K mg bb nm [g] cs) {fd : FuncData} {q : Str} (F : FunD K "__init__" q (defArgs st) (defBody st) (defScope st) [] [] (He.ma K (He.ga K nm) "__init__") fd) (S : FnScope (badN [g]) (badN [g]) (defScope st))
    (bind : ∀ (kV doc pm : Value) (an : Option Addr) (cdv ct : Value) (us : List Value), us.length = (badN [g]).length → bindArgs (PySem.W.fnOf "__init__" q (defArgs st) (defBody st) (defScope st) .none kV doc pm an cdv ct) ⟨us, []⟩ = pure ((badN [g]).zip us))
    (hb : ∀ cdv A outer s H E, Room k (A.deeper (envOfC q (defScope st) s.heap.objs.size (He.ma K (He.ga K nm) "__init__") cdv)) → PSs (bodyX P w K mg base (badN [g]) q st (He.ma K (He.ga K nm) "__init__") cdv A outer s H E) (defBody st) (tSeq (tDrop (tCall (spInk K bb) [] E0 (tCons (tVar 0) (tCons (tC (.str nm)) tNil)))) (tOsb K bb g (tVar 0) (tVar 1)))) : BadOk P w K mg base (k + 1) nm [g] :=
  ⟨⟨bb, f.c⟩, f.gl, _, fd, badN [g], f.ini, f.ty, F.ok S (fun vs H Q E ⟨a, ws, e, hl, _⟩ => by rw [e, List.length_cons, hl]; rfl) (fun cdv A outer s H vs Q E hr h => ⟨_, hb cdv A outer s H E hr, bad1_run f.c h⟩), F.bindsN bind⟩
theorem FieldOk.mono {j : Nat} {exs : List Str} (o : FieldOk P w K mg base j exs) (h : j ≤ k) : FieldOk P w K mg base k exs := ⟨o.xf, let ⟨g, fd, a1, a2, a3, run⟩ := o.ex; ⟨g, fd, a1, a2, a3, fun nm a dd oe A outer s H args Q R F M ns xs d hn hr => run nm a dd oe A outer s H args Q R F M ns xs d hn (hr.mono h)⟩⟩
/-- the name of what lambdas of the law are -/
def lawQ : Str := (envOfC "law" ⟨.function, [], false, false, []⟩ 0 0 .none).qual ++ "<lambda>"
abbrev csN : List Str := ["InkError", "Missing", "NothingLeft"]
abbrev csE (K : PySem.W.Frag) : List Value := csN.map fun c => .ref (He.ga K c)
def atB (nm : Str) (K : PySem.W.Frag) : Bool := (["name", "most", "strip", "number", "at"] : List Str).all fun f => He.eqO (PySem.W.findIn K (.ref (He.ga K nm)) f) (some none)
theorem atB_ok {nm : Str} (h : atB nm K = true) : ∀ f ∈ (["name", "most", "strip", "number", "at"] : List Str), PySem.W.findIn K (.ref (He.ga K nm)) f = some none := fun f hf => He.eqO_ok (List.all_eq_true.mp h f hf)
/-- the law's def: its code object is told -/
theorem def_fnL {x : Str} {fd : FuncData} {N ps : List Str} {sp : SpD} {t : DS} (F : FunD K x x (defArgs st) (defBody st) (defScope st) [] [] (He.fAd K (x, none)) fd) (S : FnScope N ps (defScope st))
    (hb : ∀ A outer s H E, Room k (A.deeper (envOfC x (defScope st) s.heap.objs.size (He.fAd K (x, none)) (.ref (He.cT K (x, none)).1))) → PDSs (bodyCx P w K mg base N x st (He.fAd K (x, none)) (.ref (He.cT K (x, none)).1) A outer s H E) (defBody st) t)
    (hr : ∀ ds M Q E, ds.length = ps.length → sp ds M Q E → t { nx := fun _ M' => Q .non M', rt := Q } (startD N ds) M) : FnOk P w K mg base (L2N.CX P w) (k + 1) (He.fAd K (x, none)) fd ps (upSp K ps.length sp) := by
  obtain ⟨oc, od, dV, kV, doc, pm, an, cdv, ct, osl, rfl, lk, hcd, _, _⟩ := F.ex
  obtain ⟨c, ec⟩ := He.codeIn_ref hcd
  have e1 : He.codeOf K (x, none) = c := He.codeOf_eq lk ec
  have e2 : cdv = .ref (He.cT K (x, none)).1 := by rw [ec, ← e1]; rfl
  subst e2
  refine fn_of lk hcd S (fun vs H Q E ⟨R, F, M, ds, Qd, Ed, _, r, hl, _⟩ => by rw [← r.length, hl]) (fun A outer s H vs Q E hroom h => ?_)
  obtain ⟨R, F', M, ds, Qd, Ed, a, r, hl, hsp, kd, kx⟩ := h
  exact ⟨_, (hb A outer s H E hroom).nox, R, F', startD N ds, M, { nx := fun _ M' => Qd .non M', rt := Qd }, a, start_env r, hr ds M Qd Ed hl hsp, ⟨fun F1 H1 M1 env1 σ1 s1 a1 e1 q => kd F1 H1 M1 .non .non s1 a1 rfl q, kd, fun _ _ _ _ _ _ _ _ q => q.elim, fun _ _ _ _ _ _ _ _ q => q.elim⟩⟩
end
def t_law_field_1 (a dd : Addr) : DS := (dSeq (dSet 1 (dC (.str plainW))) (dRet (dIf (dTest (dBin (rInDD id) (dXf a dd "word" (dVar 0)) (dSplit (dVar 1) (dC (.str " "))))) (dC .non) (dXf a dd "at" (dVar 0)))))
def t_law_field (a dd : Addr) : DS := (dSeq (dIfS (dTest (dBin (rInDD id) (dXf a dd "word" (dVar 0)) (dTup (dCons (dC (.str "Taken")) (dCons (dC (.str "NoName")) dNil))))) (dRet (dXf a dd "name" (dVar 0))) dNext)
    (dSeq (dIfS (dTest (dBin (rEqDD id) (dXf a dd "word" (dVar 0)) (dC (.str "TooMany")))) (dRet (dXf a dd "most" (dVar 0))) dNext)
    (dSeq (dIfS (dTest (dBin (rEqDD id) (dXf a dd "word" (dVar 0)) (dC (.str "Still")))) (dRet (dXf a dd "strip" (dVar 0))) dNext)
    (dSeq (dIfS (dTest (dBin (rEqDD id) (dXf a dd "word" (dVar 0)) (dC (.str "NoSaid")))) (dRet (dXf a dd "number" (dVar 0))) dNext)
    (t_law_field_1 a dd)))))
abbrev fieldN : List Str := ["_law_e", "_law_plain"]
theorem split_sok : ∀ y ∈ Txt.split plainW " ", SOk y := by decide +kernel
theorem r_law_field (a dd : Addr) (ns : List Str) (xs : List D) (d : D) (M : Mp) (Q : DK) (h : fieldOf ns xs = some d) (q : Q d M) : t_law_field a dd { nx := fun _ M' => Q .non M', rt := Q } (startD fieldN [.exc a dd ns xs]) M := by
  unfold fieldOf at h
  split at h
  · rename_i w hw
    have neg : ∀ {b : Bool}, b = false → ¬ b = true := fun {b} e z => by rw [e] at z; cases z
    walk_at "w"
    refine ⟨⟨rfl, rfl⟩, ?_⟩
    rw [hw]
    walk_at "w"
    refine ⟨⟨rfl, rfl⟩, ?_⟩
    walk_at "w"
    refine brn_by (fun c => ?_) (fun c => ?_)
    · rw [if_pos (show isS ["Taken", "NoName"] w = true from c)] at h
      walk_at "w"
      refine ⟨⟨rfl, rfl⟩, ?_⟩
      rw [h]; exact q
    rw [if_neg (neg (show isS ["Taken", "NoName"] w = false from c))] at h
    walk_at "w"
    refine ⟨⟨rfl, rfl⟩, ?_⟩
    rw [hw]
    walk_at "w"
    refine ⟨⟨rfl, rfl⟩, ?_⟩
    walk_at "w"
    refine brn_by (fun c => ?_) (fun c => ?_)
    · rw [if_pos (show eqD (.str w) (.str "TooMany") = true from c)] at h
      walk_at "w"
      refine ⟨⟨rfl, rfl⟩, ?_⟩
      rw [h]; exact q
    rw [if_neg (neg (show eqD (.str w) (.str "TooMany") = false from c))] at h
    walk_at "w"
    refine ⟨⟨rfl, rfl⟩, ?_⟩
    rw [hw]
    walk_at "w"
    refine ⟨⟨rfl, rfl⟩, ?_⟩
    walk_at "w"
    refine brn_by (fun c => ?_) (fun c => ?_)
    · rw [if_pos (show eqD (.str w) (.str "Still") = true from c)] at h
      walk_at "w"
      refine ⟨⟨rfl, rfl⟩, ?_⟩
      rw [h]; exact q
    rw [if_neg (neg (show eqD (.str w) (.str "Still") = false from c))] at h
    walk_at "w"
    refine ⟨⟨rfl, rfl⟩, ?_⟩
    rw [hw]
    walk_at "w"
    refine ⟨⟨rfl, rfl⟩, ?_⟩
    walk_at "w"
    refine brn_by (fun c => ?_) (fun c => ?_)
    · rw [if_pos (show eqD (.str w) (.str "NoSaid") = true from c)] at h
      walk_at "w"
      refine ⟨⟨rfl, rfl⟩, ?_⟩
      rw [h]; exact q
    rw [if_neg (neg (show eqD (.str w) (.str "NoSaid") = false from c))] at h
    walk_at "w"
    refine ⟨⟨rfl, rfl⟩, ?_⟩
    rw [hw]
    walk_at "w"
    refine ⟨rfl, by decide +kernel, split_sok, ?_⟩
    walk_at "w"
    refine ⟨⟨rfl, by decide +kernel⟩, ?_⟩
    walk_at "w"
    refine brn_by (fun c => ?_) (fun c => ?_)
    · rw [if_pos (show isS (Txt.split plainW " ") w = true from c)] at h
      cases h
      exact q
    · rw [if_neg (neg (show isS (Txt.split plainW " ") w = false from c))] at h
      walk_at "w"
      refine ⟨⟨rfl, rfl⟩, ?_⟩
      rw [h]; exact q
  · cases h
theorem roomHn {n k : Nat} {A : Around} (hn : n ≤ 200) (hr : L2H.RoomH k A) : A.units + n < cLine := by have := hr.un; omega
theorem markH {k : Nat} {A : Around} (r : Room k A) (h : Option Value) : L2H.RoomH k (A.mark h) := ⟨r.dp, r.un⟩
/-- a law whose lambdas are made by its own code -/
def sp_lawT (tb : Addr) : SpD := fun ds M Q _ => ∃ ns : List Int, ds = [.lsk (ns.map D.int)] ∧ M = mupd (fun _ => none) tb (.tbl lawQ) ∧ ∀ M', Q (.bl true) M'
theorem law_okT (tb : Addr) (ns : List Int) : sp_lawT tb [.lsk (ns.map D.int)] (mupd (fun _ => none) tb (.tbl lawQ)) (fun d _ => d = .bl true) X0 := ⟨ns, rfl, rfl, fun _ => rfl⟩
end L3
set_option Elab.async false
set_option linter.all false
set_option maxRecDepth 100000
set_option maxHeartbeats 0
namespace L3
open PySem PySem.Spec PyProof.Rows L2
def topS (i : Nat) : Stmt := PySem.Challenge.pw_whoseink_k52_deed_texts_refused.main.body.getD i (.Pass ⟨0, 0, 0, 0⟩)
abbrev s_law_bag : Stmt := topS 27
abbrev s_law_writer_text : Stmt := topS 41
abbrev s_law_deed_text : Stmt := topS 45
abbrev s_law_pull : Stmt := topS 28
abbrev s_law_of : Stmt := topS 29
abbrev s_law_farB : Stmt := topS 40
abbrev s_law_writer : Stmt := topS 37
abbrev s_law_every_deed : Stmt := topS 48
abbrev s_law_letters : Stmt := topS 30
abbrev s_law_names : Stmt := topS 35
abbrev s_law_signs : Stmt := topS 36
abbrev s_law_bent_text : Stmt := topS 42
abbrev s_law_is_name : Stmt := topS 38
abbrev s_law_arrow_in : Stmt := topS 43
abbrev s_law_is_writer : Stmt := topS 39
abbrev s_law_writer_in : Stmt := topS 44
abbrev s_law_number_in : Stmt := topS 46
abbrev s_law_deed_in : Stmt := topS 47
abbrev s_law_field : Stmt := topS 32
abbrev s_law_tried : Stmt := topS 33
abbrev s_arrow_in : Stmt := topS 16
abbrev s_is_name : Stmt := topS 12
abbrev s_is_sign : Stmt := topS 13
abbrev s_is_arrow : Stmt := topS 14
abbrev s_is_writer : Stmt := topS 15
abbrev s_writer_in : Stmt := topS 17
abbrev s_number_in : Stmt := topS 22
abbrev s_thing_in : Stmt := topS 23
abbrev s_deed_in : Stmt := topS 24
abbrev s_InkError___init__ : Stmt := inClass (topS 1) 0
abbrev s_BadText___init__ : Stmt := inClass (topS 4) 0
abbrev s_read_deed : Stmt := topS 25
abbrev s_law_like : Stmt := topS 31
abbrev s_law_refused : Stmt := topS 34
abbrev s_law : Stmt := topS 49
def dd_law_bag : He.DefD := ⟨("_law_bag", none), "_law_bag", "_law_bag", defArgs s_law_bag, defBody s_law_bag, defScope s_law_bag, [], []⟩
def dd_law_writer_text : He.DefD := ⟨("_law_writer_text", none), "_law_writer_text", "_law_writer_text", defArgs s_law_writer_text, defBody s_law_writer_text, defScope s_law_writer_text, [], []⟩
def dd_law_deed_text : He.DefD := ⟨("_law_deed_text", none), "_law_deed_text", "_law_deed_text", defArgs s_law_deed_text, defBody s_law_deed_text, defScope s_law_deed_text, [], []⟩
def dd_law_pull : He.DefD := ⟨("_law_pull", none), "_law_pull", "_law_pull", defArgs s_law_pull, defBody s_law_pull, defScope s_law_pull, [], []⟩
def dd_law_of : He.DefD := ⟨("_law_of", none), "_law_of", "_law_of", defArgs s_law_of, defBody s_law_of, defScope s_law_of, [], []⟩
def dd_law_farB : He.DefD := ⟨("_law_far", none), "_law_far", "_law_far", defArgs s_law_farB, defBody s_law_farB, defScope s_law_farB, [], []⟩
def dd_law_writer : He.DefD := ⟨("_law_writer", none), "_law_writer", "_law_writer", defArgs s_law_writer, defBody s_law_writer, defScope s_law_writer, [], []⟩
def dd_law_every_deed : He.DefD := ⟨("_law_every_deed", none), "_law_every_deed", "_law_every_deed", defArgs s_law_every_deed, defBody s_law_every_deed, defScope s_law_every_deed, [], []⟩
def dd_law_letters : He.DefD := ⟨("_law_letters", none), "_law_letters", "_law_letters", defArgs s_law_letters, defBody s_law_letters, defScope s_law_letters, [], []⟩
def dd_law_names : He.DefD := ⟨("_law_names", none), "_law_names", "_law_names", defArgs s_law_names, defBody s_law_names, defScope s_law_names, [], []⟩
def dd_law_signs : He.DefD := ⟨("_law_signs", none), "_law_signs", "_law_signs", defArgs s_law_signs, defBody s_law_signs, defScope s_law_signs, [], []⟩
def dd_law_bent_text : He.DefD := ⟨("_law_bent_text", none), "_law_bent_text", "_law_bent_text", defArgs s_law_bent_text, defBody s_law_bent_text, defScope s_law_bent_text, [], []⟩
def dd_law_is_name : He.DefD := ⟨("_law_is_name", none), "_law_is_name", "_law_is_name", defArgs s_law_is_name, defBody s_law_is_name, defScope s_law_is_name, [], []⟩
def dd_law_arrow_in : He.DefD := ⟨("_law_arrow_in", none), "_law_arrow_in", "_law_arrow_in", defArgs s_law_arrow_in, defBody s_law_arrow_in, defScope s_law_arrow_in, [], []⟩
def dd_law_is_writer : He.DefD := ⟨("_law_is_writer", none), "_law_is_writer", "_law_is_writer", defArgs s_law_is_writer, defBody s_law_is_writer, defScope s_law_is_writer, [], []⟩
def dd_law_writer_in : He.DefD := ⟨("_law_writer_in", none), "_law_writer_in", "_law_writer_in", defArgs s_law_writer_in, defBody s_law_writer_in, defScope s_law_writer_in, [], []⟩
def dd_law_number_in : He.DefD := ⟨("_law_number_in", none), "_law_number_in", "_law_number_in", defArgs s_law_number_in, defBody s_law_number_in, defScope s_law_number_in, [], []⟩
def dd_law_deed_in : He.DefD := ⟨("_law_deed_in", none), "_law_deed_in", "_law_deed_in", defArgs s_law_deed_in, defBody s_law_deed_in, defScope s_law_deed_in, [], []⟩
def dd_law_field : He.DefD := ⟨("_law_field", none), "_law_field", "_law_field", defArgs s_law_field, defBody s_law_field, defScope s_law_field, [], []⟩
def dd_law_tried : He.DefD := ⟨("_law_tried", none), "_law_tried", "_law_tried", defArgs s_law_tried, defBody s_law_tried, defScope s_law_tried, [], []⟩
def dd_arrow_in : He.DefD := ⟨("arrow_in", none), "arrow_in", "arrow_in", defArgs s_arrow_in, defBody s_arrow_in, defScope s_arrow_in, [], []⟩
def dd_is_name : He.DefD := ⟨("is_name", none), "is_name", "is_name", defArgs s_is_name, defBody s_is_name, defScope s_is_name, [], []⟩
def dd_is_sign : He.DefD := ⟨("is_sign", none), "is_sign", "is_sign", defArgs s_is_sign, defBody s_is_sign, defScope s_is_sign, [], []⟩
def dd_is_arrow : He.DefD := ⟨("is_arrow", none), "is_arrow", "is_arrow", defArgs s_is_arrow, defBody s_is_arrow, defScope s_is_arrow, [], []⟩
def dd_is_writer : He.DefD := ⟨("is_writer", none), "is_writer", "is_writer", defArgs s_is_writer, defBody s_is_writer, defScope s_is_writer, [], []⟩
def dd_writer_in : He.DefD := ⟨("writer_in", none), "writer_in", "writer_in", defArgs s_writer_in, defBody s_writer_in, defScope s_writer_in, [], []⟩
def dd_number_in : He.DefD := ⟨("number_in", none), "number_in", "number_in", defArgs s_number_in, defBody s_number_in, defScope s_number_in, [], []⟩
def dd_thing_in : He.DefD := ⟨("thing_in", none), "thing_in", "thing_in", defArgs s_thing_in, defBody s_thing_in, defScope s_thing_in, [], []⟩
def dd_deed_in : He.DefD := ⟨("deed_in", none), "deed_in", "deed_in", defArgs s_deed_in, defBody s_deed_in, defScope s_deed_in, [], []⟩
def dd_InkError___init__ : He.DefD := ⟨("InkError", some "__init__"), "__init__", "InkError.__init__", defArgs s_InkError___init__, defBody s_InkError___init__, defScope s_InkError___init__, [.str "InkError"], []⟩
def dd_BadText___init__ : He.DefD := ⟨("BadText", some "__init__"), "__init__", "BadText.__init__", defArgs s_BadText___init__, defBody s_BadText___init__, defScope s_BadText___init__, [], []⟩
def dd_read_deed : He.DefD := ⟨("read_deed", none), "read_deed", "read_deed", defArgs s_read_deed, defBody s_read_deed, defScope s_read_deed, [], []⟩
def dd_law_like : He.DefD := ⟨("_law_like", none), "_law_like", "_law_like", defArgs s_law_like, defBody s_law_like, defScope s_law_like, [], []⟩
def dd_law_refused : He.DefD := ⟨("_law_refused", none), "_law_refused", "_law_refused", defArgs s_law_refused, defBody s_law_refused, defScope s_law_refused, [], []⟩
def dd_law : He.DefD := ⟨("law", none), "law", "law", defArgs s_law, defBody s_law, defScope s_law, [], []⟩
def fnl : List He.DefD := [dd_law_bag, dd_law_writer_text, dd_law_deed_text, dd_law_pull, dd_law_of, dd_law_farB, dd_law_writer, dd_law_every_deed, dd_law_letters, dd_law_names, dd_law_signs, dd_law_bent_text, dd_law_is_name, dd_law_arrow_in, dd_law_is_writer, dd_law_writer_in, dd_law_number_in, dd_law_deed_in, dd_law_field, dd_law_tried, dd_arrow_in, dd_is_name, dd_is_sign, dd_is_arrow, dd_is_writer, dd_writer_in, dd_number_in, dd_thing_in, dd_deed_in, dd_InkError___init__, dd_BadText___init__, dd_read_deed, dd_law_like, dd_law_refused, dd_law]
def fb0 : PySem.W.Frag → Bool := tblB "FORMS" ["come", "leave", "change", "sign", "said", "denied", "unsay", "watch", "unwatch"] [.str "w", .str "n", .str "w", .str "s", .str "bn", .str "bn", .str "b", .str "b", .str "b"]
def fb1 : PySem.W.Frag → Bool := inkB .ve "InkError"
def fb2 : PySem.W.Frag → Bool := badB .ve "BadText" ["at"] csN
def fb3 : PySem.W.Frag → Bool := atB "BadText"
def fbl : List (PySem.W.Frag → Bool) := [fb0, fb1, fb2, fb3]
def fal : List He.Fa := [.glo "_law_bag", .glo "_law_writer_text", .glo "_law_deed_text", .glo "_law_pull", .glo "_law_of", .glo "_law_far", .glo "_law_writer", .glo "_law_every_deed", .glo "_law_letters", .glo "_law_names", .glo "_law_signs", .glo "_law_bent_text", .glo "_law_is_name", .glo "_law_arrow_in", .glo "_law_is_writer", .glo "_law_writer_in", .glo "_law_number_in", .glo "_law_deed_in", .glo "_law_field", .glo "_law_tried", .glo "arrow_in", .glo "is_name", .glo "is_sign", .glo "is_arrow", .glo "is_writer", .glo "writer_in", .glo "number_in", .glo "thing_in", .glo "deed_in", .glo "read_deed", .glo "_law_like", .glo "_law_refused", .glo "law", .str "FIGURES_deeds" "0123456789", .str "FIGURES_writers" "0123", .str "LETTERS" "abcdefghijklmnopqrstuvwxyz", .int "LONGEST" 6, .int "MOST_ARROWS" 9, .int "MOST_COUNT" 3, .int "MOST_FIGURES" 30, .int "MOST_PLACE" 2, .free "all", .free "bool", .free "int", .free "isinstance", .free "len", .free "list", .free "max", .free "range", .free "set", .free "sorted", .free "str", .free "tuple", .free "zip", .glo "FORMS", .glo "Missing", .glo "NothingLeft", .free "ValueError"]
def tfl : List He.Defn := [("law", none)]
def tsl : List He.Tab := [(fun K => He.ga K "FORMS", ["come", "leave", "change", "sign", "said", "denied", "unsay", "watch", "unwatch"])]
abbrev hk : PySem.W.Hook := hookPD 4 fbl fal fnl tfl tsl
def FP : Prop := ∀ (w : World) (mg : Str → Option Value) (fa : Addr) (h : Heap), hk.says w h → h.Ns mainGlobals mg → mg ("law" : Str) = some (.ref fa) → ∃ K : PySem.W.Frag, K.In h ∧ LamX.LawAtS PySem.Challenge.rw_whoseink_k52_deed_texts_refused w K (L2N.CX (PySem.W.OpenLaw.prog PySem.Challenge.rw_whoseink_k52_deed_texts_refused) w) 12 63 "_law_script" mg fa h
/-- the hook, the rest of the proof told with what it says -/
def hkF (F : FP) : PySem.W.Hook where
  α := hk.α
  obs := hk.obs
  val := hk.val
  says := fun w h => hk.says w h ∧ FP
  of := fun w h e => ⟨hk.of w h e, F⟩
  keeps := fun w h h' s k => ⟨hk.keeps w h h' s.1 k, s.2⟩
section
open Lean in
local macro_rules
  | `($f:ident L3.hkX) => do
    let n := f.getId.eraseMacroScopes
    if n == `Hook.obs || n == `Hook.val then `($f L3.hk) else `($f (L3.hkF $(mkIdent `F)))
theorem head_of (F : FP) : PySem.Challenge.rw_whoseink_k52_deed_texts_refused.Holds := by
  w_on; o_law
  o_head L3.hkX
  case hw => w_witness2
  case hc =>
    refine LamX.walk_ofTsE (l := PySem.Challenge.rw_whoseink_k52_deed_texts_refused) (n := 63) (k := 12) (x := "_law_script") (CX := (fun w => L2N.CX (PySem.W.OpenLaw.prog PySem.Challenge.rw_whoseink_k52_deed_texts_refused) w)) rfl (by decide) (by kernel_rfl) ⟨rfl, by decide, by decide⟩ ?F (fun _ _ _ _ _ z => by obtain ⟨_, _, _, _, _, _, _, _, _, _, _, _, z⟩ := z; exact z)
    intro w mg fa h Y G hmg0
    exact Y.2 w mg fa h Y.1 G hmg0
end
end L3
set_option Elab.async false
set_option linter.all false
set_option maxRecDepth 100000
set_option maxHeartbeats 1000000
namespace L3
open PySem PySem.Spec PyProof.Rows L2
local macro_rules | `(tactic| walk_at "w") => `(tactic| conv => whnf)
theorem mupd_comm {M : Mp} {a b : Addr} {x y : MO} (h : a ≠ b) : mupd (mupd M a x) b y = mupd (mupd M b y) a x := by
  funext c
  simp only [mupd]
  by_cases h1 : c = b
  · subst h1; rw [if_pos rfl, if_neg (Ne.symm h), if_pos rfl]
  · rw [if_neg h1, if_neg h1]
theorem cutS_to (x : Str) (k : Nat) : (cutS x none (some (k : Int))).cps.toList = x.cps.toList.take k := by
  unfold cutS
  rw [HT.sIx_none, HT.sIx_nat, List.drop_zero, Nat.sub_zero]
  show x.cps.toList.take _ = _
  have : x.length = x.cps.toList.length := by simp [Str.length]
  rw [this]
  by_cases h : k ≤ x.cps.toList.length
  · rw [Nat.min_eq_left h]
  · rw [Nat.min_eq_right (by omega), List.take_length, List.take_of_length_le (by omega)]
theorem cutS_from (x : Str) (k : Nat) : (cutS x (some (k : Int)) none).cps.toList = x.cps.toList.drop k := by
  unfold cutS
  rw [HT.sIx_none, HT.sIx_nat]
  have hl : x.length = x.cps.toList.length := by simp [Str.length]
  show ((x.cps.toList.drop _).take _) = _
  rw [hl]
  by_cases h : k ≤ x.cps.toList.length
  · rw [Nat.min_eq_left h, List.take_of_length_le (by rw [List.length_drop]; omega)]
  · rw [Nat.min_eq_right (by omega), List.drop_length, List.drop_eq_nil_of_le (by omega)]; simp
theorem app_list (x y : Str) : (x ++ y).cps.toList = x.cps.toList ++ y.cps.toList := by
  have e : (x ++ y).cps = x.cps ++ y.cps := rfl
  rw [e, Array.toList_append]
theorem len_list (x : Str) : x.length = x.cps.toList.length := by simp [Str.length]
theorem join_ones : ∀ {ys : List Str}, (∀ y ∈ ys, ∃ c, y = ⟨#[c]⟩ ∧ isLetter c = true) → (Txt.join (Str.ofString "") ys).cps.toList.length = ys.length ∧ (Txt.join (Str.ofString "") ys).cps.toList.all isLetter = true := by
  intro ys h
  have e : (Txt.join (Str.ofString "") ys).cps.toList = TL.joinL (Str.ofString "").cps.toList (ys.map fun y => y.cps.toList) := by
    rw [TL.join_eq]; exact TL.tl_join _ ys
  have e0 : (Str.ofString "").cps.toList = [] := by decide +kernel
  rw [e, e0]
  have key : ∀ zs : List (List Nat), (∀ z ∈ zs, ∃ c, z = [c] ∧ isLetter c = true) → (TL.joinL [] zs).length = zs.length ∧ (TL.joinL [] zs).all isLetter = true := by
    intro zs
    induction zs with
    | nil => intro _; exact ⟨rfl, rfl⟩
    | cons z zs ih =>
      intro hz
      obtain ⟨c, rfl, hc⟩ := hz z List.mem_cons_self
      have ih' := ih fun y hy => hz y (List.mem_cons_of_mem _ hy)
      cases zs with
      | nil => exact ⟨rfl, by simp [TL.joinL, hc]⟩
      | cons y ys =>
        have ej : TL.joinL [] ([c] :: y :: ys) = c :: TL.joinL [] (y :: ys) := by simp [TL.joinL]
        rw [ej]
        exact ⟨by rw [List.length_cons, ih'.1]; rfl, by rw [List.all_cons, hc, ih'.2]; rfl⟩
  have := key (ys.map fun y => y.cps.toList) fun z hz => by
    obtain ⟨y, hy, rfl⟩ := List.mem_map.mp hz
    obtain ⟨c, rfl, hc⟩ := h y hy
    exact ⟨c, rfl, hc⟩
  rw [List.length_map] at this
  exact this
theorem sum_ones {ys : List Str} (h : ∀ y ∈ ys, y.length = 1) : (ys.map (·.length)).sum = ys.length := by
  induction ys with
  | nil => rfl
  | cons y ys ih =>
    rw [List.map_cons, List.sum_cons, h y List.mem_cons_self, ih fun z hz => h z (List.mem_cons_of_mem _ hz), List.length_cons]
    omega
theorem letter_at {i : Int} (h0 : 0 ≤ i) (h1 : i < 26) : atI letters.cps.toList i = some (97 + i.toNat) := by
  obtain ⟨j, rfl⟩ := Int.eq_ofNat_of_zero_le h0
  rw [letters_list]
  have hj : j < 26 := by omega
  refine atI_nat (j := j) ?_
  rw [List.getElem?_map, List.getElem?_range hj]
  simp [Nat.add_comm]
/-- a drawn name: letters, one to six, a given one at a given place -/
structure NmAt (a c : Nat) (x : Str) : Prop where
  pos : 0 < x.length
  few : x.length ≤ 6
  let_ : x.cps.toList.all isLetter = true
  at_ : x.cps.toList[a]? = some c
theorem NmAt.name {a c : Nat} {x : Str} (h : NmAt a c x) : isName x = true := by
  unfold isName
  rw [decide_eq_true h.pos, decide_eq_true h.few, h.let_]; rfl
/-- the letter of a step -/
def stepL (start step : Int) (k : Nat) : Nat := 97 + ((start + step * k) % 26).toNat
theorem stepL_inj {start step : Int} {i j : Nat} (hs : step = 1 ∨ step = 3 ∨ step = 5 ∨ step = 7) (hi : i < 26) (hj : j < 26) (h : stepL start step i = stepL start step j) : i = j := by
  unfold stepL at h
  have h1 := Int.emod_nonneg (start + step * i) (show (26 : Int) ≠ 0 by decide)
  have h2 := Int.emod_nonneg (start + step * j) (show (26 : Int) ≠ 0 by decide)
  have h3 : (start + step * i) % 26 = (start + step * j) % 26 := by omega
  rcases hs with rfl | rfl | rfl | rfl <;> omega
def sp_law_names : SpD := fun ds M Q _ => ∃ p b n, ds = [.ref p, .int n] ∧ M p = some (.lst (Bag.l b)) ∧ b.Ok ∧ 0 ≤ n ∧ n ≤ 26 ∧
  ∀ (xs : List Str) b', Bag.Ok b' → (xs.length : Int) = n → (∀ x ∈ xs, isName x = true) → xs.Nodup → Q (.lst (xs.map D.str)) (mupd M p (.lst b'.l))
def t_law_names_1 : DS := (dFrzN 9 (dRet (dVar 9)))
def t_law_names : DS := (dSeq (dAsg (dTup (dCons (dBin rAddD (dC (.int 1)) (dCall sp_law_pull (dCons (dVar 0) (dCons (dC (.int 6)) dNil)))) (dCons (dCall sp_law_letters dNil) dNil))) (.tup [(.name 4), (.name 5)]))
    (dSeq (dPar 6 7 (dCons (dCall sp_law_pull (dCons (dVar 0) (dCons (dVar 4) dNil))) (dCons (dCall sp_law_pull (dCons (dVar 0) (dCons (dC (.int 26)) dNil))) dNil)))
    (dSeq (dSet 2 (dCall sp_law_of (dCons (dVar 0) (dCons (dLst (dCons (dC (.int 1)) (dCons (dC (.int 3)) (dCons (dC (.int 5)) (dCons (dC (.int 7)) dNil))))) dNil))))
    (dSeq (dPar 8 9 (dCons (dJoin (dC (.str "")) (dLc (iRange1 (dCons (dVar 4) dNil)) (.name 3) dYes (dCall sp_law_of (dCons (dVar 0) (dCons (dVar 5) dNil))) [3])) (dCons (dLstM dNil) dNil)))
    (dSeq (dFor (iRange1 (dCons (dVar 1) dNil)) (.name 3) (dSeq (dSet 10 (dBin rIxD (dVar 5) (dBin rModI (dBin rAddD (dVar 7) (dBin rMulI (dVar 2) (dVar 3))) (dC (.int 26)))))
    (dSeq (dSet 11 (dBin rAddD (dBin rAddD (dSl (dVar 8) dNoPart (dPart (dVar 6))) (dVar 10)) (dSl (dVar 8) (dPart (dBin rAddD (dVar 6) (dC (.int 1)))) dNoPart)))
    (dDrop (dAppend (dVar 9) (dIf (dTest (dBin (rEqDD id) (dCall sp_law_pull (dCons (dVar 0) (dCons (dC (.int 3)) dNil))) (dC (.int 0)))) (dSl (dVar 11) dNoPart (dPart (dBin rMaxI (dBin rAddD (dVar 6) (dC (.int 1))) (dBin rSubI (dVar 4) (dVar 3))))) (dVar 11)))))))
    t_law_names_1)))))
theorem r_law_names (ds : List D) (M : Mp) (Q : DK) (E : DX) (hl : ds.length = 2) (h : sp_law_names ds M Q E) : t_law_names { nx := fun _ M' => Q .non M', rt := Q } (startD ["_law_bag_here", "_law_many", "_law_step", "_law_k", "_law_size", "_law_letters_here", "_law_at", "_law_start", "_law_base", "_law_found", "_law_sign", "_law_name"] ds) M := by
  obtain ⟨p, b, n, rfl, hM, hb, h0, h1, q⟩ := h
  walk_at "w"
  refine ⟨p, b, 6, rfl, hM, hb, by decide, by decide, fun r1 b1 hb1 r10 r11 => ?_⟩
  walk_at "w"
  refine ⟨rfl, ?_⟩
  walk_at "w"
  refine ⟨p, b1, 1 + r1, rfl, mupd_same, hb1, by omega, by omega, fun r2 b2 hb2 r20 r21 => ?_⟩
  rw [mupd_mupd]
  walk_at "w"
  refine ⟨p, b2, 26, rfl, mupd_same, hb2, by decide, by decide, fun r3 b3 hb3 r30 r31 => ?_⟩
  rw [mupd_mupd]
  walk_at "w"
  refine ⟨p, b3, .lst [.int 1, .int 3, .int 5, .int 7], [.int 1, .int 3, .int 5, .int 7], rfl, mupd_same, hb3, by decide, by decide, .inl ⟨rfl, fun e => by cases e⟩, fun y b4 hb4 hy => ?_⟩
  rw [mupd_mupd]
  obtain ⟨st, rfl, hst⟩ : ∃ st : Int, y = .int st ∧ (st = 1 ∨ st = 3 ∨ st = 5 ∨ st = 7) := by
    simp only [List.mem_cons, List.not_mem_nil, or_false] at hy
    rcases hy with rfl | rfl | rfl | rfl <;> exact ⟨_, rfl, by omega⟩
  walk_at "w"
  refine ⟨⟨by omega, by omega⟩, ?_⟩
  walk_at "w"
  refine lc_inv (fun i acc M' => ∃ b' ys, Bag.Ok b' ∧ M' = mupd M p (.lst b'.l) ∧ acc = ys.map D.str ∧ ys.length = i ∧ ∀ y ∈ ys, ∃ c, y = ⟨#[c]⟩ ∧ isLetter c = true) ⟨b4, [], hb4, rfl, rfl, rfl, fun y hy => by cases hy⟩ (fun i x acc M' K hx ⟨b', ys, hb', e1, e2, e3, e4⟩ hK => ?_) fun acc M' ⟨b', ys, hb', e1, e2, e3, e4⟩ => ?_
  · subst e1 e2
    walk_at "w"
    refine ⟨p, b', .str letters, signs letters, rfl, mupd_same, hb', by decide +kernel, by decide +kernel, .inr (.inr ⟨letters, rfl, rfl⟩), fun x b2 hb2 hx => ?_⟩
    obtain ⟨c, hc, rfl⟩ := List.mem_map.mp hx
    have hc' := (mem_letters c).mp hc
    refine hK _ _ ⟨b2, ys ++ [⟨#[c]⟩], hb2, by rw [mupd_mupd], by simp [sgn], by simp [e3], fun y hy => ?_⟩
    rcases List.mem_append.mp hy with hy | hy
    · exact e4 y hy
    · rw [List.mem_singleton.mp hy]; exact ⟨c, rfl, hc'⟩
  · subst e1 e2
    rw [rng_length] at e3
    walk_at "w"
    rw [asStrs_map]
    walk_at "w"
    have hj := join_ones e4
    have hs : (ys.map (·.length)).sum = ys.length := sum_ones fun y hy => by obtain ⟨c, rfl, _⟩ := e4 y hy; rfl
    have h00 : (Str.ofString "").length = 0 := by decide +kernel
    refine ⟨by rw [hs, h00]; omega, ?_⟩
    generalize Txt.join (Str.ofString "") ys = base at hj ⊢
    obtain ⟨bl, bLet⟩ := hj
    have hbl : (base.cps.toList.length : Int) = 1 + r1 := by rw [bl, e3]; omega
    walk_at "w"
    intro qa hqa
    have hpq : qa ≠ p := fun e => by rw [e, mupd_same] at hqa; cases hqa
    walk_at "w"
    refine ⟨⟨by omega, by omega⟩, ?_⟩
    walk_at "w"
    obtain ⟨at_, rfl⟩ := Int.eq_ofNat_of_zero_le r20
    refine for_inv (fun i env M' => ∃ k s10 s11 b', ∃ xs : List Str, env = [some (.ref p), some (.int n), some (.int st), k, some (.int (1 + r1)), some (.str letters), some (.int (at_ : Int)), some (.int r3), some (.str base), some (.ref qa), s10, s11] ∧ Bag.Ok b' ∧ M' = mupd (mupd M p (.lst b'.l)) qa (.lst (xs.map D.str)) ∧ xs.length = i ∧ ∀ j x, xs[j]? = some x → NmAt at_ (stepL r3 st j) x)
      ⟨none, none, none, b', [], rfl, hb', rfl, rfl, fun j x hx => by simp at hx⟩ (fun i x env M' K hx ⟨k, s10, s11, b5, xs, e1, hb5, e2, e3, e4⟩ hK => ?_) fun env M' ⟨k, s10, s11, b5, xs, e1, hb5, e2, e3, e4⟩ => ?_
    · obtain ⟨hi, rfl⟩ := rng_at hx
      subst e1 e2
      have hmod0 := Int.emod_nonneg (r3 + st * (0 + (i : Int))) (show (26 : Int) ≠ 0 by decide)
      have hmod1 := Int.emod_lt_of_pos (r3 + st * (0 + (i : Int))) (show (0 : Int) < 26 by decide)
      walk_at "w"
      refine ⟨.inr ?_, ?_⟩
      · clear hmod0 hmod1 hbl
        omega
      walk_at "w"
      refine ⟨by show (0 : Int) < 26; decide, ?_⟩
      walk_at "w"
      rw [letter_at hmod0 hmod1]
      walk_at "w"
      have eL : (97 + ((r3 + st * (0 + (i : Int))) % 26).toNat) = stepL r3 st i := by unfold stepL; rw [Int.zero_add]
      rw [eL]
      have hcl : isLetter (stepL r3 st i) = true := by
        rw [← eL]; unfold isLetter
        rw [decide_eq_true (show 97 ≤ 97 + ((r3 + st * (0 + (i : Int))) % 26).toNat by omega), decide_eq_true (show 97 + ((r3 + st * (0 + (i : Int))) % 26).toNat ≤ 122 by omega)]; rfl
      generalize hcE : stepL r3 st i = c at hcl ⊢
      clear hmod0 hmod1 eL
      have hat : at_ < base.cps.toList.length := by omega
      have ca := cutS_to base at_
      have cb := cutS_from base (at_ + 1)
      have e11 : ((at_ + 1 : Nat) : Int) = (at_ : Int) + 1 := by omega
      rw [e11] at cb
      have la := congrArg List.length ca
      have lb := congrArg List.length cb
      rw [List.length_take, ← len_list] at la
      rw [List.length_drop, ← len_list] at lb
      refine ⟨by rw [sizeLine_eq, la]; show _ + 1 ≤ _; omega, ?_⟩
      walk_at "w"
      have l1 : (cutS base none (some (at_ : Int)) ++ (⟨#[c]⟩ : Str)).length = (cutS base none (some (at_ : Int))).length + 1 := by
        rw [len_list, app_list, List.length_append, ← len_list]; rfl
      refine ⟨by rw [sizeLine_eq, l1, la, lb]; omega, ?_⟩
      have hnm : NmAt at_ c (cutS base none (some (at_ : Int)) ++ (⟨#[c]⟩ : Str) ++ cutS base (some ((at_ : Int) + 1)) none) := by
        have el : (cutS base none (some (at_ : Int)) ++ (⟨#[c]⟩ : Str) ++ cutS base (some ((at_ : Int) + 1)) none).cps.toList = base.cps.toList.take at_ ++ c :: base.cps.toList.drop (at_ + 1) := by
          rw [app_list, app_list, ca, cb]; simp
        refine ⟨?_, ?_, ?_, ?_⟩
        · rw [len_list, el, List.length_append, List.length_cons]; exact Nat.lt_of_lt_of_le (Nat.succ_pos _) (Nat.le_add_left _ _)
        · clear la lb ca cb
          rw [len_list, el, List.length_append, List.length_cons, List.length_take, List.length_drop]; omega
        · rw [el, List.all_append, List.all_cons, hcl, Bool.true_and, Bool.and_eq_true]
          rw [List.all_eq_true] at bLet
          exact ⟨List.all_eq_true.mpr fun z hz => bLet z (List.mem_of_mem_take hz), List.all_eq_true.mpr fun z hz => bLet z (List.mem_of_mem_drop hz)⟩
        · rw [el, List.getElem?_append_right (by rw [List.length_take]; exact Nat.min_le_left _ _), List.length_take, Nat.min_eq_left (Nat.le_of_lt hat), Nat.sub_self]; rfl
      clear l1 la lb ca cb e11
      generalize (cutS base none (some (at_ : Int)) ++ (⟨#[c]⟩ : Str) ++ cutS base (some ((at_ : Int) + 1)) none) = nm at hnm ⊢
      walk_at "w"
      refine ⟨?_, ?_⟩
      · walk_at "w"
        rw [mupd_same]
        trivial
      walk_at "w"
      refine ⟨p, b5, 3, rfl, by rw [mupd_ne (Ne.symm hpq), mupd_same], hb5, by decide, by decide, fun r4 b6 hb6 r40 r41 => ?_⟩
      rw [mupd_comm hpq, mupd_mupd]
      walk_at "w"
      refine ⟨⟨rfl, rfl⟩, ?_⟩
      have fin : ∀ y, NmAt at_ c y → (xs.map D.str).length < sizeLine ∧ K ((([some (D.ref p), some (D.int n), some (D.int st), k, some (D.int (1 + r1)), some (D.str letters), some (D.int (at_ : Int)), some (D.int r3), some (D.str base), some (D.ref qa), s10, s11].set 3 (some (D.int (0 + (i : Int))))).set 10 (some (sgn c))).set 11 (some (D.str nm))) (mupd (mupd (mupd M p (.lst b6.l)) qa (.lst (xs.map D.str))) qa (.lst (xs.map D.str ++ [.str y]))) := fun y hy =>
        ⟨by rw [List.length_map, sizeLine_eq]; omega, hK _ _ ⟨_, _, _, b6, xs ++ [y], rfl, hb6, by rw [mupd_mupd, List.map_append]; rfl, by rw [List.length_append, e3]; rfl, fun j x hx2 => by
          by_cases hj : j < xs.length
          · rw [List.getElem?_append_left hj] at hx2; exact e4 j x hx2
          · rw [List.getElem?_append_right (by omega)] at hx2
            have hj0 : j = i := by
              have := (List.getElem?_eq_some_iff.mp hx2).1
              simp at this
              omega
            subst hj0
            rw [e3, Nat.sub_self] at hx2
            cases hx2
            rw [hcE]; exact hy⟩⟩
      walk_at "w"
      refine brn_by (fun hc => ?_) fun hc => ?_
      · walk_at "w"
        have hm : ∃ m : Nat, (if (1 + r1 - (0 + (i : Int))) > ((at_ : Int) + 1) then (1 + r1 - (0 + (i : Int))) else ((at_ : Int) + 1)) = (m : Int) ∧ at_ < m := by
          split
          · exact ⟨(1 + r1 - (0 + (i : Int))).toNat, by omega, by omega⟩
          · exact ⟨at_ + 1, by omega, by omega⟩
        obtain ⟨m, em, hm⟩ := hm
        have hnm2 : NmAt at_ c (cutS nm none (some (m : Int))) := by
          have cm := cutS_to nm m
          have h1 := hnm.pos
          have h2 := hnm.few
          have h3 := hnm.let_
          rw [len_list] at h1 h2
          refine ⟨by rw [len_list, cm, List.length_take]; omega, by rw [len_list, cm, List.length_take]; omega, ?_, ?_⟩
          · rw [cm]
            rw [List.all_eq_true] at h3 ⊢
            exact fun z hz => h3 z (List.mem_of_mem_take hz)
          · rw [cm, List.getElem?_take, if_pos hm]; exact hnm.at_
        rw [em]
        rw [mupd_same]
        walk_at "w"
        refine fin _ hnm2
      · walk_at "w"
        rw [mupd_same]
        walk_at "w"
        refine fin _ hnm
    · subst e1 e2
      rw [rng_length] at e3
      walk_at "w"
      rw [mupd_same]
      walk_at "w"
      rw [mdel_mupd (by rw [mupd_ne hpq]; rw [mupd_ne hpq] at hqa; exact hqa)]
      refine q xs b5 hb5 (by omega) (fun x hx => ?_) ?_
      · obtain ⟨j, hj⟩ := List.getElem?_of_mem hx
        exact (e4 j x hj).name
      · rw [List.nodup_iff_pairwise_ne, List.pairwise_iff_getElem]
        intro i j hi hj hij e
        have h1 := e4 i xs[i] (List.getElem?_eq_getElem hi)
        have h2 := e4 j xs[j] (List.getElem?_eq_getElem hj)
        rw [e] at h1
        have := stepL_inj hst (by omega) (by omega) (Option.some.inj (h1.at_.symm.trans h2.at_))
        omega
theorem leD_str {a b : Str} : leD (.str a) (.str b) = decide (a.cps.toList ≤ b.cps.toList) := by
  show (!PySem.W.dataLt (.str b) (.str a)) = _
  rw [PySem.W.dataLt_str, PySem.W.not_lt_str]
theorem one_le {a b : Nat} : ([a] ≤ [b]) ↔ a ≤ b := by
  rw [← List.not_lt, ← Nat.not_lt]
  constructor
  · intro h q; exact h (List.Lex.rel q)
  · intro h q
    cases q with
    | rel q => exact h q
    | cons q => cases q
theorem leD_sgn {a b : Nat} : leD (sgn a) (sgn b) = decide (a ≤ b) := by
  unfold sgn
  rw [leD_str, decide_eq_decide]
  exact one_le
theorem sortD_pw (ds : List D) : (sortD ds).Pairwise (fun a b => leD a b = true) := PySem.W.sort_pairwise (PySem.W.sortLe_total _ false _) ds
theorem sortD_sgns (cs : List Nat) : ∃ ys : List Nat, sortD (cs.map sgn) = ys.map sgn ∧ ys.Perm cs ∧ ys.Pairwise (· ≤ ·) := by
  have e := (PySem.W.sort_maps (r := fun a b => decide (a ≤ b)) (s := leD) sgn (l := cs) fun a _ b _ => leD_sgn.symm)
  refine ⟨_, e.symm, List.mergeSort_perm _ _, ?_⟩
  have h := sortD_pw (cs.map sgn)
  unfold sortD at h
  rw [← e, List.pairwise_map] at h
  exact h.imp fun h => of_decide_eq_true (leD_sgn ▸ h)
theorem les_flat {n : Nat} {ds : List D} (h : ∀ d ∈ ds, flatD d = true) : D.les n ds = true := les_of fun d hd => by
  have := h d hd
  cases d <;> first | (cases n <;> rfl) | cases this
theorem srt_strs (xs : List Str) : SrtOk (xs.map D.str) := by
  refine ⟨?_, ?_⟩
  · rw [List.map_map]; exact PySem.W.AllAlike.of fun b b' => by simp [D.py, PySem.W.alike]
  · rw [List.map_map]; exact PySem.W.Sortable.others fun b => ⟨by simp [D.py], by simp [D.py]⟩
theorem sgns_strs (cs : List Nat) : cs.map sgn = (cs.map fun c => (⟨#[c]⟩ : Str)).map D.str := by rw [List.map_map]; rfl
theorem le_nodup_lt {α : Type} {xs : List α} {le lt : α → α → Prop} (h : xs.Pairwise le) (hn : xs.Nodup) (hl : ∀ a b, le a b → a ≠ b → lt a b) : xs.Pairwise lt := by
  have := List.Pairwise.and h hn
  exact this.imp fun ⟨a, b⟩ => hl _ _ a b
/-- a row of letters that rises -/
structure SgOk (cs : List Nat) : Prop where
  let_ : ∀ c ∈ cs, isLetter c = true
  up : cs.Pairwise (· < ·)
theorem SgOk.few {cs : List Nat} (h : SgOk cs) : cs.length ≤ 26 := by
  have h1 : cs.Nodup := h.up.imp fun q => Nat.ne_of_lt q
  have h2 : ∀ c ∈ cs, c ∈ (List.range 26).map (· + 97) := fun c hc => by
    have := (mem_letters c).mpr (h.let_ c hc)
    rwa [letters_list] at this
  have := L2.nat_nodup_len cs _ h1 h2
  simpa using this
def sp_law_signs : SpD := fun ds M Q _ => ∃ p b n, ds = [.ref p, .int n] ∧ M p = some (.lst (Bag.l b)) ∧ b.Ok ∧ 0 < n ∧ n ≤ 26 ∧
  ∀ (cs : List Nat) b', Bag.Ok b' → SgOk cs → 0 < cs.length → (cs.length : Int) ≤ n → Q (.lst (cs.map sgn)) (mupd M p (.lst b'.l))
def t_law_signs : DS := (dSeq (dAsg (dTup (dCons (dCall sp_law_pull (dCons (dVar 0) (dCons (dC (.int 26)) dNil))) (dCons (dCall sp_law_of (dCons (dVar 0) (dCons (dLst (dCons (dC (.int 1)) (dCons (dC (.int 3)) (dCons (dC (.int 5)) (dCons (dC (.int 7)) dNil))))) dNil))) dNil))) (.tup [(.name 2), (.name 3)]))
    (dSeq (dAsg (dTup (dCons (dBin rAddD (dC (.int 1)) (dCall sp_law_pull (dCons (dVar 0) (dCons (dVar 1) dNil)))) (dCons (dCall sp_law_letters dNil) dNil))) (.tup [(.name 4), (.name 5)]))
    (dRet (dUn rSortD (dLc (iRange1 (dCons (dVar 4) dNil)) (.name 6) dYes (dBin rIxD (dVar 5) (dBin rModI (dBin rAddD (dVar 2) (dBin rMulI (dVar 3) (dVar 6))) (dC (.int 26)))) [6])))))
theorem r_law_signs (ds : List D) (M : Mp) (Q : DK) (E : DX) (hl : ds.length = 2) (h : sp_law_signs ds M Q E) : t_law_signs { nx := fun _ M' => Q .non M', rt := Q } (startD ["_law_bag_here", "_law_limit", "_law_start", "_law_step", "_law_many", "_law_letters_here", "_law_k"] ds) M := by
  obtain ⟨p, b, n, rfl, hM, hb, h0, h1, q⟩ := h
  walk_at "w"
  refine ⟨p, b, 26, rfl, hM, hb, by decide, by decide, fun r3 b1 hb1 r30 r31 => ?_⟩
  walk_at "w"
  refine ⟨p, b1, .lst [.int 1, .int 3, .int 5, .int 7], [.int 1, .int 3, .int 5, .int 7], rfl, mupd_same, hb1, by decide, by decide, .inl ⟨rfl, fun e => by cases e⟩, fun y b2 hb2 hy => ?_⟩
  rw [mupd_mupd]
  obtain ⟨st, rfl, hst⟩ : ∃ st : Int, y = .int st ∧ (st = 1 ∨ st = 3 ∨ st = 5 ∨ st = 7) := by
    simp only [List.mem_cons, List.not_mem_nil, or_false] at hy
    rcases hy with rfl | rfl | rfl | rfl <;> exact ⟨_, rfl, by omega⟩
  walk_at "w"
  refine ⟨p, b2, n, rfl, mupd_same, hb2, h0, by omega, fun r4 b3 hb3 r40 r41 => ?_⟩
  rw [mupd_mupd]
  walk_at "w"
  refine ⟨rfl, ?_⟩
  walk_at "w"
  refine ⟨⟨by omega, by omega⟩, ?_⟩
  walk_at "w"
  refine lc_inv (fun i acc M' => M' = mupd M p (.lst b3.l) ∧ acc = ((List.range i).map (stepL r3 st)).map sgn) ⟨rfl, rfl⟩ (fun i x acc M' K hx ⟨e1, e2⟩ hK => ?_) fun acc M' ⟨e1, e2⟩ => ?_
  · obtain ⟨hi, rfl⟩ := rng_at hx
    subst e1
    have hmod0 := Int.emod_nonneg (r3 + st * (0 + (i : Int))) (show (26 : Int) ≠ 0 by decide)
    have hmod1 := Int.emod_lt_of_pos (r3 + st * (0 + (i : Int))) (show (0 : Int) < 26 by decide)
    walk_at "w"
    refine ⟨.inr ?_, ?_⟩
    · rcases hst with rfl | rfl | rfl | rfl <;> omega
    walk_at "w"
    refine ⟨by show (0 : Int) < 26; decide, ?_⟩
    walk_at "w"
    rw [letter_at hmod0 hmod1]
    refine hK _ _ ⟨rfl, ?_⟩
    have eL : (97 + ((r3 + st * (0 + (i : Int))) % 26).toNat) = stepL r3 st i := by unfold stepL; rw [Int.zero_add]
    rw [e2, eL, List.range_succ, List.map_append, List.map_append]; rfl
  · subst e1 e2
    rw [rng_length]
    generalize hk : (1 + r4).toNat = k
    have hk1 : k ≤ 26 := by omega
    walk_at "w"
    refine ⟨⟨les_flat fun d hd => ?_, by rw [sgns_strs]; exact srt_strs _⟩, ?_⟩
    · obtain ⟨c, _, rfl⟩ := List.mem_map.mp hd; rfl
    obtain ⟨ys, e1, e2, e3⟩ := sortD_sgns ((List.range k).map (stepL r3 st))
    rw [e1]
    have hnd : ((List.range k).map (stepL r3 st)).Nodup := by
      rw [List.nodup_iff_pairwise_ne, List.pairwise_map]
      refine List.Pairwise.imp_of_mem ?_ List.nodup_range
      intro a b ha hb hne e
      exact hne (stepL_inj hst (by have := List.mem_range.mp ha; omega) (by have := List.mem_range.mp hb; omega) e)
    have hlen : ys.length = k := by rw [e2.length_eq]; simp
    refine q ys b3 hb3 ⟨fun c hc => ?_, le_nodup_lt e3 (e2.nodup_iff.mpr hnd) fun a b h1 h2 => by omega⟩ (by omega) (by omega)
    obtain ⟨i, hi, rfl⟩ := List.mem_map.mp (e2.mem_iff.mp hc)
    have hmod0 := Int.emod_nonneg (r3 + st * (i : Int)) (show (26 : Int) ≠ 0 by decide)
    have hmod1 := Int.emod_lt_of_pos (r3 + st * (i : Int)) (show (0 : Int) < 26 by decide)
    unfold stepL isLetter
    rw [decide_eq_true (show 97 ≤ 97 + ((r3 + st * (i : Int)) % 26).toNat by omega), decide_eq_true (show 97 + ((r3 + st * (i : Int)) % 26).toNat ≤ 122 by omega)]; rfl
/-- an arrow: place, sign, to -/
structure Ar where
  at_ : Int
  sg : Str
  to : Int
structure Wr where
  name : Str
  ar : List Ar
  pat : Int
  cap : Int
def arD (a : Ar) : D := .tup [.int a.at_, .str a.sg, .int a.to]
def wrD (w : Wr) : D := .tup [.str w.name, .tup (w.ar.map arD), .int w.pat, .int w.cap]
/-- arrows of a writer that is one: places and signs rise -/
def arLt (a b : Ar) : Prop := a.at_ < b.at_ ∨ (a.at_ = b.at_ ∧ a.sg.cps.toList < b.sg.cps.toList)
structure ArOk (a : Ar) : Prop where
  at0 : 0 ≤ a.at_
  at1 : a.at_ ≤ 2
  sg : ∃ c, a.sg = ⟨#[c]⟩ ∧ isLetter c = true
  to0 : 0 ≤ a.to
  to1 : a.to ≤ 2
structure WrOk (w : Wr) : Prop where
  name : isName w.name = true
  few : w.ar.length ≤ 9
  ar : ∀ a ∈ w.ar, ArOk a
  up : w.ar.Pairwise arLt
  pat0 : 0 ≤ w.pat
  pat1 : w.pat ≤ 3
  cap0 : 0 ≤ w.cap
  cap1 : w.cap ≤ 3
/-- what is drawn: the name is as it was handed -/
structure WrDr (name : Str) (places : Int) (cs : List Nat) (w : Wr) : Prop where
  name : w.name = name
  few : w.ar.length ≤ 9
  ar : ∀ a ∈ w.ar, 0 ≤ a.at_ ∧ a.at_ < places ∧ (∃ c ∈ cs, a.sg = ⟨#[c]⟩) ∧ 0 ≤ a.to ∧ a.to < places
  up : w.ar.Pairwise arLt
  pat0 : 0 ≤ w.pat
  pat1 : w.pat ≤ 3
  cap0 : 0 ≤ w.cap
  cap1 : w.cap ≤ 3
theorem WrDr.ok {name : Str} {places : Int} {cs : List Nat} {w : Wr} (h : WrDr name places cs w) (hn : isName name = true) (hp : places ≤ 3) (hc : SgOk cs) : WrOk w :=
  ⟨by rw [h.name]; exact hn, h.few, fun a ha => by
    obtain ⟨h1, h2, ⟨c, hcs, h3⟩, h4, h5⟩ := h.ar a ha
    exact ⟨h1, by omega, ⟨c, h3, hc.let_ c hcs⟩, h4, by omega⟩, h.up, h.pat0, h.pat1, h.cap0, h.cap1⟩
def sp_law_writer : SpD := fun ds M Q _ => ∃ p b name n cs thick, ds = [.ref p, .str name, .int n, .lst (cs.map sgn), .int thick] ∧ M p = some (.lst (Bag.l b)) ∧ b.Ok ∧ 0 < n ∧ n ≤ 3 ∧ SgOk cs ∧
  ∀ w b', Bag.Ok b' → WrDr name n cs w → Q (wrD w) (mupd M p (.lst b'.l))
def t_law_writer_1 : DS := (dSeq (dFrzN 5 (dSet 7 (dLst (dCons (dC (.int 0)) (dCons (dC (.int 0)) (dCons (dC (.int 0)) (dCons (dC (.int 1)) (dCons (dC (.int 2)) (dCons (dC (.int 3)) dNil)))))))))
    (dRet (dTup (dCons (dVar 1) (dCons (dUn rTupleD (dVar 5)) (dCons (dCall sp_law_of (dCons (dVar 0) (dCons (dVar 7) dNil))) (dCons (dCall sp_law_of (dCons (dVar 0) (dCons (dVar 7) dNil))) dNil)))))))
def t_law_writer : DS := (dSeq (dSet 5 (dLstM dNil))
    (dSeq (dFor (iRange1 (dCons (dVar 2) dNil)) (.name 6) (dFor (iLst (dVar 3)) (.name 8) (dIfS (dAnd (dTest (dBin rLtI (dUn rLenD (dVar 5)) (dC (.int 9)))) (dTest (dBin rLtI (dCall sp_law_pull (dCons (dVar 0) (dCons (dC (.int 8)) dNil))) (dVar 4)))) (dDrop (dAppend (dVar 5) (dTup (dCons (dVar 6) (dCons (dVar 8) (dCons (dCall sp_law_pull (dCons (dVar 0) (dCons (dVar 2) dNil))) dNil)))))) dNext)))
    t_law_writer_1))
/-- arrows made so far: at places before i, at place i of the first j signs -/
structure ArsAt (n : Int) (cs : List Nat) (i j : Nat) (as : List Ar) : Prop where
  few : as.length ≤ 9
  ar : ∀ a ∈ as, 0 ≤ a.at_ ∧ a.at_ < n ∧ (∃ c ∈ cs, a.sg = ⟨#[c]⟩) ∧ 0 ≤ a.to ∧ a.to < n
  up : as.Pairwise arLt
  low : ∀ a ∈ as, a.at_ < i ∨ (a.at_ = i ∧ ∃ k c, k < j ∧ cs[k]? = some c ∧ a.sg = ⟨#[c]⟩)
theorem sgn_lt {a b : Nat} (h : a < b) : (⟨#[a]⟩ : Str).cps.toList < (⟨#[b]⟩ : Str).cps.toList := List.Lex.rel h
theorem ArsAt.more {n : Int} {cs : List Nat} {i j c : Nat} {as : List Ar} (h : ArsAt n cs i j as) (hup : cs.Pairwise (· < ·)) (hi : (i : Int) < n) (hc : cs[j]? = some c) (h9 : as.length < 9) {t : Int} (t0 : 0 ≤ t) (t1 : t < n) : ArsAt n cs i (j + 1) (as ++ [⟨(i : Int), ⟨#[c]⟩, t⟩]) := by
  refine ⟨by simp; omega, fun a ha => ?_, ?_, fun a ha => ?_⟩
  · rcases List.mem_append.mp ha with ha | ha
    · exact h.ar a ha
    · rw [List.mem_singleton.mp ha]
      exact ⟨by show (0 : Int) ≤ i; omega, hi, ⟨c, List.mem_of_getElem? hc, rfl⟩, t0, t1⟩
  · rw [List.pairwise_append]
    refine ⟨h.up, by simp, fun a ha b hb => ?_⟩
    rw [List.mem_singleton.mp hb]
    rcases h.low a ha with q | ⟨q, k, c', hk, hck, e⟩
    · exact .inl q
    · refine .inr ⟨q, ?_⟩
      rw [e]
      have h1 := (List.getElem?_eq_some_iff.mp hck)
      have h2 := (List.getElem?_eq_some_iff.mp hc)
      have := List.pairwise_iff_getElem.mp hup k j h1.1 h2.1 hk
      rw [h1.2, h2.2] at this
      exact sgn_lt this
  · rcases List.mem_append.mp ha with ha | ha
    · rcases h.low a ha with q | ⟨q, k, c', hk, hck, e⟩
      · exact .inl q
      · exact .inr ⟨q, k, c', by omega, hck, e⟩
    · rw [List.mem_singleton.mp ha]
      exact .inr ⟨rfl, j, c, by omega, hc, rfl⟩
theorem ArsAt.skip {n : Int} {cs : List Nat} {i j : Nat} {as : List Ar} (h : ArsAt n cs i j as) : ArsAt n cs i (j + 1) as :=
  ⟨h.few, h.ar, h.up, fun a ha => (h.low a ha).imp id fun ⟨q, k, c, hk, r⟩ => ⟨q, k, c, by omega, r⟩⟩
theorem ArsAt.next {n : Int} {cs : List Nat} {i j : Nat} {as : List Ar} (h : ArsAt n cs i j as) : ArsAt n cs (i + 1) 0 as :=
  ⟨h.few, h.ar, h.up, fun a ha => .inl (by rcases h.low a ha with q | ⟨q, _⟩ <;> omega)⟩
theorem r_law_writer (ds : List D) (M : Mp) (Q : DK) (E : DX) (hl : ds.length = 5) (h : sp_law_writer ds M Q E) : t_law_writer { nx := fun _ M' => Q .non M', rt := Q } (startD ["_law_bag_here", "_law_name", "_law_places", "_law_signs_here", "_law_thick", "_law_lines", "_law_place", "_law_counts", "_law_sign"] ds) M := by
  obtain ⟨p, b, name, n, cs, thick, rfl, hM, hb, h0, h1, hcs, q⟩ := h
  walk_at "w"
  intro qa hqa
  have hpq : qa ≠ p := fun e => by rw [e, hM] at hqa; cases hqa
  walk_at "w"
  refine ⟨⟨by omega, by omega⟩, ?_⟩
  walk_at "w"
  have hcl := hcs.few
  refine for_inv (fun i env M' => ∃ s6 s8 b', ∃ as : List Ar, env = [some (.ref p), some (.str name), some (.int n), some (.lst (cs.map sgn)), some (.int thick), some (.ref qa), s6, none, s8] ∧ Bag.Ok b' ∧ M' = mupd (mupd M p (.lst b'.l)) qa (.lst (as.map arD)) ∧ ArsAt n cs i 0 as)
    ⟨none, none, b, [], rfl, hb, by rw [mupd_id hM]; rfl, ⟨by simp, by simp, by simp, by simp⟩⟩ (fun i x env M' K hx ⟨s6, s8, b1, as, e1, hb1, e2, e3⟩ hK => ?_) fun env M' ⟨s6, s8, b1, as, e1, hb1, e2, e3⟩ => ?_
  · obtain ⟨hi, rfl⟩ := rng_at hx
    subst e1 e2
    walk_at "w"
    refine for_inv (fun j env M' => ∃ s8 b', ∃ as : List Ar, env = [some (.ref p), some (.str name), some (.int n), some (.lst (cs.map sgn)), some (.int thick), some (.ref qa), some (.int (0 + (i : Int))), none, s8] ∧ Bag.Ok b' ∧ M' = mupd (mupd M p (.lst b'.l)) qa (.lst (as.map arD)) ∧ ArsAt n cs i j as)
      ⟨s8, b1, as, rfl, hb1, rfl, e3⟩ (fun j x env M' K2 hx2 ⟨s8, b2, as2, e1, hb2, e2, e4⟩ hK2 => ?_) fun env M' ⟨s8, b2, as2, e1, hb2, e2, e4⟩ => ?_
    · subst e1 e2
      rw [List.getElem?_map] at hx2
      obtain ⟨c, hc, rfl⟩ := Option.map_eq_some_iff.mp hx2
      have hpm : mupd (mupd M p (.lst b2.l)) qa (.lst (as2.map arD)) p = some (.lst b2.l) := by rw [mupd_ne (Ne.symm hpq), mupd_same]
      walk_at "w"
      rw [resD_new]
      walk_at "w"
      refine brn_by (fun hc1 => ?_) fun hc1 => ?_
      · have h9 : as2.length < 9 := by
          have := of_decide_eq_true hc1
          rw [List.length_map] at this
          omega
        walk_at "w"
        refine ⟨p, b2, 8, rfl, hpm, hb2, by decide, by decide, fun r b3 hb3 r0 r1 => ?_⟩
        rw [mupd_comm hpq, mupd_mupd]
        walk_at "w"
        refine brn_by (fun hc2 => ?_) fun hc2 => ?_
        · walk_at "w"
          refine ⟨?_, ?_⟩
          · walk_at "w"
            rw [mupd_same]
            trivial
          walk_at "w"
          refine ⟨p, b3, n, rfl, by rw [mupd_ne (Ne.symm hpq), mupd_same], hb3, h0, by omega, fun t b4 hb4 t0 t1 => ?_⟩
          rw [mupd_comm hpq, mupd_mupd]
          walk_at "w"
          rw [mupd_same]
          refine ⟨by rw [List.length_map, sizeLine_eq]; omega, ?_⟩
          refine hK2 _ _ ⟨_, b4, as2 ++ [⟨(i : Int), ⟨#[c]⟩, t⟩], rfl, hb4, ?_, e4.more hcs.up (by omega) hc h9 t0 t1⟩
          rw [mupd_mupd, List.map_append, Int.zero_add]; rfl
        · exact hK2 _ _ ⟨_, b3, as2, rfl, hb3, rfl, e4.skip⟩
      · exact hK2 _ _ ⟨_, b2, as2, rfl, hb2, rfl, e4.skip⟩
    · exact hK _ _ ⟨_, s8, b2, as2, e1, hb2, e2, e4.next⟩
  · subst e1 e2
    walk_at "w"
    rw [mupd_same]
    walk_at "w"
    rw [mdel_mupd (by rw [mupd_ne hpq]; exact hqa)]
    have cnt : ∀ y : D, y ∈ [D.int 0, .int 0, .int 0, .int 1, .int 2, .int 3] → ∃ k : Int, y = .int k ∧ 0 ≤ k ∧ k ≤ 3 := fun y hy => by
      simp only [List.mem_cons, List.not_mem_nil, or_false] at hy
      rcases hy with rfl | rfl | rfl | rfl | rfl | rfl <;> exact ⟨_, rfl, by decide, by decide⟩
    refine ⟨p, b1, .lst [.int 0, .int 0, .int 0, .int 1, .int 2, .int 3], [.int 0, .int 0, .int 0, .int 1, .int 2, .int 3], rfl, mupd_same, hb1, by decide, by decide, .inl ⟨rfl, fun e => by cases e⟩, fun y b2 hb2 hy => ?_⟩
    obtain ⟨pat, rfl, p0, p1⟩ := cnt y hy
    rw [mupd_mupd]
    walk_at "w"
    refine ⟨p, b2, .lst [.int 0, .int 0, .int 0, .int 1, .int 2, .int 3], [.int 0, .int 0, .int 0, .int 1, .int 2, .int 3], rfl, mupd_same, hb2, by decide, by decide, .inl ⟨rfl, fun e => by cases e⟩, fun z b3 hb3 hz => ?_⟩
    obtain ⟨cap, rfl, c0, c1⟩ := cnt z hz
    rw [mupd_mupd]
    exact q ⟨name, as, pat, cap⟩ b3 hb3 ⟨rfl, e3.few, e3.ar, e3.up, p0, p1, c0, c1⟩
def arsAt (w : Wr) (p : Int) : List Ar := w.ar.filter fun a => decide (a.at_ = p)
mutual
theorem same_self : ∀ {n : Nat} {d : D}, D.le n d = true → sameD d d = true
  | _, .non, _ => rfl
  | _, .bl b, _ => by simp [sameD]
  | _, .int i, _ => by simp [sameD]
  | _, .str x, _ => by simp [sameD]
  | n + 1, .tup ds, h => by simpa [sameD] using sames_self (show D.les n ds = true by simpa [D.le] using h)
  | n + 1, .lst ds, h => by simpa [sameD] using sames_self (show D.les n ds = true by simpa [D.le] using h)
  | 0, .tup ds, h => by simp [D.le] at h
  | 0, .lst ds, h => by simp [D.le] at h
  | _, .ref _, h => by simp [D.le] at h
  | _, .ty _, h => by simp [D.le] at h
  | _, .lsk _, h => by simp [D.le] at h
  | _, .dct _ _, h => by simp [D.le] at h
  | _, .obj _ _, h => by simp [D.le] at h
  | _, .dkd _ _ _, h => by simp [D.le] at h
  | _, .exc _ _ _ _, h => by simp [D.le] at h
  | _, .fn _ _ _, h => by simp [D.le] at h
theorem sames_self : ∀ {n : Nat} {ds : List D}, D.les n ds = true → sameDs ds ds = true
  | _, [], _ => rfl
  | n, d :: ds, h => by
    have h' : D.le n d = true ∧ D.les n ds = true := by simpa [D.les] using h
    simp only [sameDs, same_self h'.1, sames_self h'.2, Bool.and_true]
end
end L3
set_option Elab.async false
set_option linter.all false
set_option maxRecDepth 100000
set_option maxHeartbeats 1000000
namespace L3
open PySem PySem.Spec PyProof.Rows L2
local macro_rules | `(tactic| walk_at "w") => `(tactic| conv => whnf)
theorem isName_all {x : Str} : (signs x).map (fun z => D.bl (match z with | .str y => strIn y letters | _ => false)) = (x.cps.toList.map isLetter).map D.bl := by
  unfold signs
  rw [List.map_map, List.map_map]
  refine List.map_congr_left fun c _ => ?_
  show D.bl (strIn ⟨#[c]⟩ letters) = D.bl (isLetter c)
  rw [strIn_letters]
def sp_is_name : SpD := fun ds M Q _ => ∃ x, ds = [.str x] ∧ Q (.bl (isName x)) M
def sp_law_is_name : SpD := sp_is_name
def t_is_name : DS := (dRet (dAndV (dChain rLtI rLeI (dC (.int 0)) (dUn rLenD (dVar 0)) (dC (.int 6))) (dUn rAllD (dLc (iTxt (dVar 0)) (.name 1) dYes (dBin (rInDD id) (dVar 1) (dC (.str "abcdefghijklmnopqrstuvwxyz"))) [1]))))
def t_law_is_name : DS := (dRet (dAndV (dChain rLtI rLtI (dC (.int 0)) (dUn rLenD (dVar 0)) (dC (.int 7))) (dUn rAllD (dLc (iTxt (dVar 0)) (.name 1) dYes (dBin (rInDD id) (dVar 1) (dCall sp_law_letters dNil)) [1]))))
/-- all(sign in LETTERS for ..), behind its list -/
theorem r_all_letters {x : Str} {M : Mp} {Q : DK} {te : DE} {env : DEnv} (h : ∀ c (K : DK), K (.bl (strIn ⟨#[c]⟩ letters)) M → te (env.set 1 (some (sgn c))) M K) (q : Q (.bl (x.cps.toList.all isLetter)) M) :
    dLcL (.name 1) dYes te env (signs x) [] M (fun ds M2 => rAllD (.lst ds) M2 Q) := by
  refine lc_map (fun z => D.bl (match z with | .str y => strIn y letters | _ => false)) (fun z hz K1 K2 hK => ?_) ?_
  · obtain ⟨c, hc, rfl⟩ := List.mem_map.mp hz
    exact h c K1 hK
  · rw [isName_all]
    walk_at "w"
    rw [asBls_map]
    show Q (.bl ((x.cps.toList.map isLetter).all id)) M
    rw [List.all_map]
    exact q
theorem r_is_name (ds : List D) (M : Mp) (Q : DK) (E : DX) (hl : ds.length = 1) (h : sp_is_name ds M Q E) : t_is_name { nx := fun _ M' => Q .non M', rt := Q } (startD ["text", "sign"] ds) M := by
  obtain ⟨x, rfl, q⟩ := h
  unfold isName at q
  walk_at "w"
  have e0 : decide ((0 : Int) < (x.length : Int)) = decide (0 < x.length) := by simp
  have e1 : decide ((x.length : Int) ≤ 6) = decide (x.length ≤ 6) := by rw [decide_eq_decide]; omega
  refine brn_by (fun hc => ?_) fun hc => ?_
  · rw [← e0, show decide ((0 : Int) < (x.length : Int)) = true from hc, Bool.true_and] at q
    walk_at "w"
    refine brn_by (fun hd => ?_) fun hd => ?_
    · rw [← e1, show decide ((x.length : Int) ≤ 6) = true from hd, Bool.true_and] at q
      walk_at "w"
      refine r_all_letters (fun c K hK => ?_) q
      exact hK
    · rw [← e1, show decide ((x.length : Int) ≤ 6) = false from hd, Bool.false_and] at q
      walk_at "w"
      show Q (.bl (decide ((x.length : Int) ≤ 6))) M
      rw [show decide ((x.length : Int) ≤ 6) = false from hd]
      exact q
  · rw [← e0, show decide ((0 : Int) < (x.length : Int)) = false from hc, Bool.false_and] at q
    walk_at "w"
    exact q
theorem r_law_is_name (ds : List D) (M : Mp) (Q : DK) (E : DX) (hl : ds.length = 1) (h : sp_law_is_name ds M Q E) : t_law_is_name { nx := fun _ M' => Q .non M', rt := Q } (startD ["_law_text_here", "_law_sign"] ds) M := by
  obtain ⟨x, rfl, q⟩ := h
  unfold isName at q
  walk_at "w"
  have e0 : decide ((0 : Int) < (x.length : Int)) = decide (0 < x.length) := by simp
  have e1 : decide ((x.length : Int) < 7) = decide (x.length ≤ 6) := by rw [decide_eq_decide]; omega
  refine brn_by (fun hc => ?_) fun hc => ?_
  · rw [← e0, show decide ((0 : Int) < (x.length : Int)) = true from hc, Bool.true_and] at q
    walk_at "w"
    refine brn_by (fun hd => ?_) fun hd => ?_
    · rw [← e1, show decide ((x.length : Int) < 7) = true from hd, Bool.true_and] at q
      walk_at "w"
      refine r_all_letters (fun c K hK => ?_) q
      exact ⟨rfl, hK⟩
    · rw [← e1, show decide ((x.length : Int) < 7) = false from hd, Bool.false_and] at q
      walk_at "w"
      show Q (.bl (decide ((x.length : Int) < 7))) M
      rw [show decide ((x.length : Int) < 7) = false from hd]
      exact q
  · rw [← e0, show decide ((0 : Int) < (x.length : Int)) = false from hc, Bool.false_and] at q
    walk_at "w"
    exact q
def isSign (x : Str) : Bool := isName x && decide (x.length = 1)
theorem isSign_one {c : Nat} : isSign ⟨#[c]⟩ = isLetter c := by
  unfold isSign isName
  have h1 : (⟨#[c]⟩ : Str).length = 1 := rfl
  rw [h1]
  simp
theorem one_of {x : Str} (h : x.length = 1) : ∃ c, x = ⟨#[c]⟩ := by
  obtain ⟨⟨l⟩⟩ := x
  have h' : l.length = 1 := h
  match l, h' with
  | [c], _ => exact ⟨c, rfl⟩
def sp_is_sign : SpD := fun ds M Q _ => ∃ x, ds = [.str x] ∧ Q (.bl (isSign x)) M
def t_is_sign : DS := (dRet (dAndV (dBin (rEqDD id) (dUn rLenD (dVar 0)) (dC (.int 1))) (dBin (rInDD id) (dVar 0) (dC (.str "abcdefghijklmnopqrstuvwxyz")))))
theorem r_is_sign (ds : List D) (M : Mp) (Q : DK) (E : DX) (hl : ds.length = 1) (h : sp_is_sign ds M Q E) : t_is_sign { nx := fun _ M' => Q .non M', rt := Q } (startD ["text"] ds) M := by
  obtain ⟨x, rfl, q⟩ := h
  walk_at "w"
  refine ⟨⟨rfl, rfl⟩, ?_⟩
  walk_at "w"
  refine brn_by (fun hc => ?_) fun hc => ?_
  · have h1 : x.length = 1 := by
      have h1 : ((x.length : Int) == 1) = true := hc
      have := eq_of_beq h1
      omega
    obtain ⟨c, rfl⟩ := one_of h1
    walk_at "w"
    show Q (.bl (strIn ⟨#[c]⟩ letters)) M
    rw [strIn_letters, ← isSign_one]
    exact q
  · have h1 : ((x.length : Int) == 1) = false := hc
    show Q (.bl ((x.length : Int) == 1)) M
    have h2 : isSign x = false := by
      unfold isSign
      rw [decide_eq_false (fun e => by rw [e] at h1; exact absurd h1 (by decide)), Bool.and_false]
    rw [h2] at q
    rw [h1]
    exact q
theorem join_len {a : Str} {ys : List Str} : (Txt.join a ys).length ≤ (ys.map (·.length)).sum + ys.length * a.length := by
  have e : (Txt.join a ys).cps.toList = TL.joinL a.cps.toList (ys.map fun y => y.cps.toList) := by
    rw [TL.join_eq]; exact TL.tl_join a ys
  show (Txt.join a ys).cps.size ≤ _
  rw [← Array.length_toList, e]
  refine Nat.le_trans (joinL_len _) ?_
  rw [List.map_map, List.length_map, Array.length_toList]
  exact Nat.le_refl _
mutual
theorem nk_eqv : ∀ {n : Nat} {d e : D}, D.nk n d = true → D.nk n e = true → PyData.eqv d.py e.py = true → d = e
  | n, .non, e, _, he, h => by cases e <;> first | rfl | (cases n <;> simp [D.nk] at he; done) | (simp [D.py, PyData.eqv] at h; done)
  | n, .int i, e, _, he, h => by
    cases e <;> first | (cases n <;> simp [D.nk] at he; done) | (simp [D.py, PyData.eqv] at h; done) | (simp [D.py, PyData.eqv] at h; rw [h])
  | n, .str i, e, _, he, h => by
    cases e <;> first | (cases n <;> simp [D.nk] at he; done) | (simp [D.py, PyData.eqv] at h; done) | (simp [D.py, PyData.eqv] at h; rw [h])
  | n + 1, .tup ds, e, hd, he, h => by
    cases e with
    | tup es =>
      simp only [D.py, PyData.eqv] at h
      rw [nks_eqv (show D.nks n ds = true by simpa [D.nk] using hd) (show D.nks n es = true by simpa [D.nk] using he) h]
    | _ => first | (simp [D.nk] at he; done) | (simp [D.py, PyData.eqv] at h; done)
  | 0, .tup _, _, hd, _, _ => by simp [D.nk] at hd
  | n, .bl _, _, hd, _, _ => by cases n <;> simp [D.nk] at hd
  | n, .ty _, _, hd, _, _ => by cases n <;> simp [D.nk] at hd
  | n, .ref _, _, hd, _, _ => by cases n <;> simp [D.nk] at hd
  | n, .lst _, _, hd, _, _ => by cases n <;> simp [D.nk] at hd
  | n, .lsk _, _, hd, _, _ => by cases n <;> simp [D.nk] at hd
  | n, .dct _ _, _, hd, _, _ => by cases n <;> simp [D.nk] at hd
  | n, .obj _ _, _, hd, _, _ => by cases n <;> simp [D.nk] at hd
  | n, .dkd _ _ _, _, hd, _, _ => by cases n <;> simp [D.nk] at hd
  | n, .exc _ _ _ _, _, hd, _, _ => by cases n <;> simp [D.nk] at hd
  | n, .fn _ _ _, _, hd, _, _ => by cases n <;> simp [D.nk] at hd
theorem nks_eqv : ∀ {n : Nat} {ds es : List D}, D.nks n ds = true → D.nks n es = true → PyData.eqvAll (D.pys ds) (D.pys es) = true → ds = es
  | _, [], [], _, _, _ => rfl
  | _, [], _ :: _, _, _, h => by simp [D.pys, PyData.eqvAll] at h
  | _, _ :: _, [], _, _, h => by simp [D.pys, PyData.eqvAll] at h
  | n, d :: ds, e :: es, hd, he, h => by
    simp only [D.nks, Bool.and_eq_true] at hd he
    simp only [D.pys, PyData.eqvAll, Bool.and_eq_true] at h
    rw [nk_eqv hd.1 he.1 h.1, nks_eqv hd.2 he.2 h.2]
end
mutual
theorem nk_self : ∀ {n : Nat} {d : D}, D.nk n d = true → PyData.eqv d.py d.py = true
  | _, .non, _ => by simp [D.py, PyData.eqv]
  | _, .int i, _ => by simp [D.py, PyData.eqv]
  | _, .str x, _ => by simp [D.py, PyData.eqv]
  | n + 1, .tup ds, h => by
    simp only [D.py, PyData.eqv]
    exact nks_self (show D.nks n ds = true by simpa [D.nk] using h)
  | 0, .tup _, hd => by simp [D.nk] at hd
  | n, .bl _, hd => by cases n <;> simp [D.nk] at hd
  | n, .ty _, hd => by cases n <;> simp [D.nk] at hd
  | n, .ref _, hd => by cases n <;> simp [D.nk] at hd
  | n, .lst _, hd => by cases n <;> simp [D.nk] at hd
  | n, .lsk _, hd => by cases n <;> simp [D.nk] at hd
  | n, .dct _ _, hd => by cases n <;> simp [D.nk] at hd
  | n, .obj _ _, hd => by cases n <;> simp [D.nk] at hd
  | n, .dkd _ _ _, hd => by cases n <;> simp [D.nk] at hd
  | n, .exc _ _ _ _, hd => by cases n <;> simp [D.nk] at hd
  | n, .fn _ _ _, hd => by cases n <;> simp [D.nk] at hd
theorem nks_self : ∀ {n : Nat} {ds : List D}, D.nks n ds = true → PyData.eqvAll (D.pys ds) (D.pys ds) = true
  | _, [], _ => rfl
  | n, d :: ds, h => by
    simp only [D.nks, Bool.and_eq_true] at h
    simp only [D.pys, PyData.eqvAll, Bool.and_eq_true]
    exact ⟨nk_self h.1, nks_self h.2⟩
end
theorem nks_of {n : Nat} : ∀ {ds : List D}, (∀ d ∈ ds, D.nk n d = true) → D.nks n ds = true
  | [], _ => rfl
  | d :: ds, h => by
    simp only [D.nks, Bool.and_eq_true]
    exact ⟨h d List.mem_cons_self, nks_of fun g hg => h g (List.mem_cons_of_mem _ hg)⟩
def kyD (a : Ar) : D := .tup [.int a.at_, .str a.sg]
instance : DecidableRel arLt := fun a b => by unfold arLt; infer_instance
theorem arLt_irr (a : Ar) : ¬ arLt a a := fun h => h.elim (fun q => by omega) fun q => List.lt_irrefl _ q.2
theorem arLt_trans {a b c : Ar} (h : arLt a b) (g : arLt b c) : arLt a c := by
  rcases h with h | ⟨h, h2⟩ <;> rcases g with g | ⟨g, g2⟩
  · exact .inl (by omega)
  · exact .inl (by omega)
  · exact .inl (by omega)
  · exact .inr ⟨by omega, List.lt_trans h2 g2⟩
theorem arLt_tri {a b : Ar} (h : kyD a ≠ kyD b) (g : ¬ arLt b a) : arLt a b := by
  by_cases e : a.at_ = b.at_
  · refine .inr ⟨e, ?_⟩
    have h1 : ¬ b.sg.cps.toList < a.sg.cps.toList := fun q => g (.inr ⟨e.symm, q⟩)
    rcases List.le_iff_lt_or_eq.mp (List.not_lt.mp h1) with q | q
    · exact q
    · refine absurd ?_ h
      unfold kyD
      rw [e, PySem.W.str_of_cps q]
  · by_cases l : a.at_ < b.at_
    · exact .inl l
    · exact absurd (.inl (by omega)) g
theorem leD_ky {a b : Ar} : leD (kyD a) (kyD b) = true ↔ ¬ arLt b a := by
  show (!PySem.W.dataLt (.tuple [.int b.at_, .str b.sg]) (.tuple [.int a.at_, .str a.sg])) = true ↔ _
  rw [PySem.W.dataLt_pair (by simp [PySem.W.alike]) (by simp [PySem.W.alike]), PySem.W.dataLt_int, PySem.W.dataLt_str]
  unfold arLt
  simp only [PyData.eqv]
  by_cases h1 : b.at_ = a.at_
  · by_cases h2 : b.sg = a.sg
    · simp [h1, h2, List.lt_irrefl]
    · simp [h1, h2]
  · simp [h1]
theorem ky_inj {a b : Ar} (h : kyD a = kyD b) : a.at_ = b.at_ ∧ a.sg = b.sg := by
  unfold kyD at h
  simpa using h
theorem perm_eq {α : Type} {R : α → α → Prop} (anti : ∀ a b, R a b → R b a → a = b) : ∀ {xs ys : List α}, xs.Perm ys → xs.Pairwise R → ys.Pairwise R → xs = ys
  | [], ys, p, _, _ => (List.Perm.nil_eq p)
  | x :: xs, [], p, _, _ => absurd p.length_eq (by simp)
  | x :: xs, y :: ys, p, hx, hy => by
    rw [List.pairwise_cons] at hx hy
    have e : x = y := by
      rcases List.mem_cons.mp (p.mem_iff.mp List.mem_cons_self) with e | e
      · exact e
      · rcases List.mem_cons.mp (p.mem_iff.mpr (List.mem_cons_self (a := y) (l := ys))) with e2 | e2
        · exact e2.symm
        · exact anti _ _ (hx.1 y e2) (hy.1 x e)
    subst e
    rw [perm_eq anti (List.Perm.cons_inv p) hx.2 hy.2]
theorem ky_nks (as : List Ar) : D.nks 8 (as.map kyD) = true := nks_of fun d hd => by
  obtain ⟨a, _, rfl⟩ := List.mem_map.mp hd; rfl
/-- keys == sorted(set(keys)) just where they rise -/
theorem keys_rise {as : List Ar} {ys : List D} (hn : ys.Nodup) (hm : ∀ g, g ∈ ys ↔ g ∈ as.map kyD) (hs : ys.Pairwise fun d e => leD d e = true) : eqD (.lst (as.map kyD)) (.lst ys) = decide (as.Pairwise arLt) := by
  have ynk : D.nks 8 ys = true := nks_of fun d hd => by
    obtain ⟨a, _, rfl⟩ := List.mem_map.mp ((hm d).mp hd); rfl
  have ev : eqD (.lst (as.map kyD)) (.lst ys) = PyData.eqvAll (D.pys (as.map kyD)) (D.pys ys) := by unfold eqD; simp only [D.py, PyData.eqv]
  rw [ev, Bool.eq_iff_iff, decide_eq_true_eq]
  constructor
  · intro h
    have e := nks_eqv (ky_nks as) ynk h
    rw [← e] at hn hs
    rw [List.nodup_iff_pairwise_ne, List.pairwise_map] at hn
    rw [List.pairwise_map] at hs
    exact (hn.and hs).imp fun {a b} ⟨h1, h2⟩ => arLt_tri h1 (leD_ky.mp h2)
  · intro h
    have nd : (as.map kyD).Nodup := by
      rw [List.nodup_iff_pairwise_ne, List.pairwise_map]
      refine h.imp fun {a b} q e => ?_
      obtain ⟨e1, e2⟩ := ky_inj e
      rcases q with q | ⟨_, q⟩
      · omega
      · rw [e2] at q; exact List.lt_irrefl _ q
    have pw : (as.map kyD).Pairwise fun d e => leD d e = true := by
      rw [List.pairwise_map]
      exact h.imp fun {a b} q => leD_ky.mpr fun g => arLt_irr _ (arLt_trans q g)
    have pm : (as.map kyD).Perm ys := (List.perm_ext_iff_of_nodup nd hn).mpr fun g => (hm g).symm
    have eq : as.map kyD = ys := by
      -- on keys the order has one answer
      have key : ∀ {xs zs : List D}, xs.Perm zs → (∀ d ∈ xs, ∃ a, d = kyD a) → xs.Pairwise (fun d e => leD d e = true) → zs.Pairwise (fun d e => leD d e = true) → xs = zs := fun p hk h1 h2 =>
        perm_eq (R := fun d e => leD d e = true ∧ (∃ a, d = kyD a) ∧ ∃ a, e = kyD a) (fun d e ⟨q1, ⟨a, ha⟩, b, hb⟩ ⟨q2, _⟩ => by
          subst ha hb
          apply Classical.byContradiction
          intro ne
          have g1 := leD_ky.mp q1
          have g2 := leD_ky.mp q2
          exact g2 (arLt_tri ne g1)) p (h1.imp_of_mem fun ha hb q => ⟨q, hk _ ha, hk _ hb⟩) (h2.imp_of_mem fun ha hb q => ⟨q, hk _ (p.mem_iff.mpr ha), hk _ (p.mem_iff.mpr hb)⟩)
      exact key pm (fun d hd => by obtain ⟨a, _, rfl⟩ := List.mem_map.mp hd; exact ⟨a, rfl⟩) pw hs
    rw [← eq]
    exact nks_self (ky_nks as)
def Ev (t : DE) (env : DEnv) (M : Mp) (d : D) : Prop := ∀ K : DK, K d M → t env M K
theorem Ev.chain {ta tb tc : DE} {env : DEnv} {M : Mp} {i j k : Int} (ha : Ev ta env M (.int i)) (hb : Ev tb env M (.int j)) (hc : Ev tc env M (.int k)) : Ev (dChain rLeI rLeI ta tb tc) env M (.bl (decide (i ≤ j) && decide (j ≤ k))) := fun K q => by
  refine ha _ (hb _ ?_)
  walk_at "w"
  refine brn_by (fun h => ?_) fun h => ?_
  · have h' : decide (i ≤ j) = true := h
    rw [h', Bool.true_and] at q
    exact hc _ q
  · have h' : decide (i ≤ j) = false := h
    rw [h', Bool.false_and] at q
    exact q
theorem Ev.and {ta tb : DE} {env : DEnv} {M : Mp} {b c : Bool} (ha : Ev ta env M (.bl b)) (hb : b = true → Ev tb env M (.bl c)) : Ev (dAndV ta tb) env M (.bl (b && c)) := fun K q => by
  refine ha _ ?_
  walk_at "w"
  refine brn_by (fun h => ?_) fun h => ?_
  · have h' : b = true := h
    rw [h', Bool.true_and] at q
    exact hb h' _ q
  · have h' : b = false := h
    rw [h', Bool.false_and] at q
    show K (.bl b) M
    rw [h']; exact q
theorem Ev.c {d : D} {env : DEnv} {M : Mp} : Ev (dC d) env M d := fun K q => q
def arB (a : Ar) : Bool := (decide (0 ≤ a.at_) && decide (a.at_ ≤ 2)) && (isSign a.sg && (decide (0 ≤ a.to) && decide (a.to ≤ 2)))
def sp_is_arrow : SpD := fun ds M Q _ => ∃ a, ds = [arD a] ∧ Q (.bl (arB a)) M
def t_is_arrow : DS := (dSeq (dAsg (dVar 0) (.tup [(.name 1), (.name 2), (.name 3)]))
    (dRet (dAndV (dChain rLeI rLeI (dC (.int 0)) (dVar 1) (dC (.int 2))) (dAndV (dCall sp_is_sign (dCons (dVar 2) dNil)) (dChain rLeI rLeI (dC (.int 0)) (dVar 3) (dC (.int 2)))))))
theorem r_is_arrow (ds : List D) (M : Mp) (Q : DK) (E : DX) (hl : ds.length = 1) (h : sp_is_arrow ds M Q E) : t_is_arrow { nx := fun _ M' => Q .non M', rt := Q } (startD ["arrow", "place", "sign", "to"] ds) M := by
  obtain ⟨a, rfl, q⟩ := h
  show dAndV (dChain rLeI rLeI (dC (.int 0)) (dVar 1) (dC (.int 2))) (dAndV (dCall sp_is_sign (dCons (dVar 2) dNil)) (dChain rLeI rLeI (dC (.int 0)) (dVar 3) (dC (.int 2)))) [some (arD a), some (.int a.at_), some (.str a.sg), some (.int a.to)] M Q
  refine Ev.and (b := decide (0 ≤ a.at_) && decide (a.at_ ≤ 2)) (Ev.chain .c (fun K q => q) .c) (fun _ => Ev.and (b := isSign a.sg) (c := decide (0 ≤ a.to) && decide (a.to ≤ 2)) (fun K q => ?_) fun _ => by exact Ev.chain .c (fun K q => q) .c) _ q
  exact ⟨a.sg, rfl, q⟩
/-- a writer's parts, of whatever kind -/
def isWr (nm : Str) (as : List Ar) (p c : Int) : Bool := isName nm && (decide (as.length ≤ 9) && (as.all arB && (decide (as.Pairwise arLt) && ((decide (0 ≤ p) && decide (p ≤ 3)) && (decide (0 ≤ c) && decide (c ≤ 3))))))
def thD (nm : Str) (as : List Ar) (is : List Int) : List D := .str nm :: .tup (as.map arD) :: is.map D.int
def sp_is_writer : SpD := fun ds M Q _ => ∃ ts : List D, ds = [.tup ts] ∧ ((ts.length ≠ 4 ∧ Q (.bl false) M) ∨ ∃ nm as p c, ts = thD nm as [p, c] ∧ as.length ≤ 1000 ∧ Q (.bl (isWr nm as p c)) M)
def t_is_writer_1 : DS := (dSeq (dSet 1 (dLc (iTpl (dVar 3)) (.name 6) dYes (dSl (dVar 6) dNoPart (dPart (dC (.int 2)))) [6]))
    (dRet (dAndV (dBin (rEqDD id) (dVar 1) (dUn rSortSet (dVar 1))) (dAndV (dChain rLeI rLeI (dC (.int 0)) (dVar 4) (dC (.int 3))) (dChain rLeI rLeI (dC (.int 0)) (dVar 5) (dC (.int 3)))))))
def t_is_writer_2 : DS := (dSeq (dAsg (dVar 0) (.tup [(.name 2), (.name 3), (.name 4), (.name 5)]))
    (dSeq (dIfS (dOr (dNot (dTru (dCall sp_is_name (dCons (dVar 2) dNil)))) (dOr (dTest (dBin rGtI (dUn rLenD (dVar 3)) (dC (.int 9)))) (dNot (dTru (dUn rAllD (dLc (iTpl (dVar 3)) (.name 6) dYes (dCall sp_is_arrow (dCons (dVar 6) dNil)) [6])))))) (dRet (dC (.bl false))) dNext)
    t_is_writer_1))
def t_is_writer : DS := (dSeq (dIfS (dTest (dBin (rEqDD not) (dUn rLenD (dVar 0)) (dC (.int 4)))) (dRet (dC (.bl false))) dNext)
    t_is_writer_2)
theorem r_is_writer_1 (nm : Str) (as : List Ar) (p c : Int) (M : Mp) (Q : DK) (nx : DEnv → Mp → Prop) (e0 e1 e6 : Option D) (h9 : as.length ≤ 9)
    (q : Q (.bl (decide (as.Pairwise arLt) && ((decide (0 ≤ p) && decide (p ≤ 3)) && (decide (0 ≤ c) && decide (c ≤ 3))))) M) :
    t_is_writer_1 { nx := nx, rt := Q } [e0, e1, some (.str nm), some (.tup (as.map arD)), some (.int p), some (.int c), e6] M := by
  walk_at "w"
  refine lc_map (fun d => match d with
    | .tup (x :: y :: _) => .tup [x, y]
    | _ => .non) (fun x hx K1 K2 h1 => ?_) ?_
  · obtain ⟨a, _, rfl⟩ := List.mem_map.mp hx
    exact h1
  · have e : (as.map arD).map (fun d => match d with
        | .tup (x :: y :: _) => D.tup [x, y]
        | _ => .non) = as.map kyD := by rw [List.map_map]; rfl
    rw [e]
    show dAndV (dBin (rEqDD id) (dVar 1) (dUn rSortSet (dVar 1))) (dAndV (dChain rLeI rLeI (dC (.int 0)) (dVar 4) (dC (.int 3))) (dChain rLeI rLeI (dC (.int 0)) (dVar 5) (dC (.int 3)))) [e0, some (.lst (as.map kyD)), some (.str nm), some (.tup (as.map arD)), some (.int p), some (.int c), e6] M Q
    refine Ev.and (b := decide (as.Pairwise arLt)) (fun K qk => ?_) (fun _ => by exact Ev.and (Ev.chain .c (fun K q => q) .c) fun _ => by exact Ev.chain .c (fun K q => q) .c) _ q
    walk_at "w"
    refine ⟨⟨fun g hg => ?_, by rw [List.length_map]; omega, ?_⟩, fun ys h1 h2 h3 => ?_⟩
    · obtain ⟨a, _, rfl⟩ := List.mem_map.mp hg; rfl
    · refine ⟨?_, ?_⟩
      · rw [List.map_map]; exact PySem.W.AllAlike.of fun b b' => by simp [kyD, D.py, D.pys, PySem.W.alike, PySem.W.alikeAll]
      · rw [List.map_map]; exact PySem.W.Sortable.tuples fun b => ⟨_, _, rfl⟩
    · walk_at "w"
      refine ⟨⟨?_, ?_⟩, ?_⟩
      · show D.les 59 (as.map kyD) = true
        exact les_of fun d hd => by obtain ⟨a, _, rfl⟩ := List.mem_map.mp hd; rfl
      · show D.les 59 ys = true
        exact les_of fun d hd => by obtain ⟨a, _, rfl⟩ := List.mem_map.mp ((h2 d).mp hd); rfl
      · show K (.bl (eqD (.lst (as.map kyD)) (.lst ys))) M
        rw [keys_rise h1 h2 h3]
        exact qk
theorem all_arB (as : List Ar) : ((as.map arD).map fun d => match d with
    | .tup [.int a, .str s, .int t] => D.bl (arB ⟨a, s, t⟩)
    | _ => .non) = (as.map arB).map D.bl := by
  rw [List.map_map, List.map_map]
  rfl
theorem r_is_writer_2 (nm : Str) (as : List Ar) (p c : Int) (M : Mp) (Q : DK) (nx : DEnv → Mp → Prop) (e1 e2 e3 e4 e5 e6 : Option D) (h1000 : as.length ≤ 1000) (q : Q (.bl (isWr nm as p c)) M) :
    t_is_writer_2 { nx := nx, rt := Q } [some (.tup (thD nm as [p, c])), e1, e2, e3, e4, e5, e6] M := by
  unfold isWr at q
  walk_at "w"
  refine ⟨nm, rfl, ?_⟩
  walk_at "w"
  refine brn_by (fun h => ?_) fun h => ?_
  · have h' : isName nm = false := by
      have : (!isName nm) = true := h
      simpa using this
    rw [h', Bool.false_and] at q
    exact q
  · have h' : isName nm = true := by
      have : (!isName nm) = false := h
      simpa using this
    rw [h', Bool.true_and] at q
    walk_at "w"
    refine brn_by (fun g => ?_) fun g => ?_
    · have g' : decide (as.length ≤ 9) = false := by
        have := of_decide_eq_true g
        rw [List.length_map] at this
        exact decide_eq_false (by omega)
      rw [g', Bool.false_and] at q
      exact q
    · have g9 : as.length ≤ 9 := by
        have := of_decide_eq_false g
        rw [List.length_map] at this
        omega
      rw [decide_eq_true g9, Bool.true_and] at q
      walk_at "w"
      refine lc_map (fun d => match d with
        | .tup [.int a, .str s, .int t] => D.bl (arB ⟨a, s, t⟩)
        | _ => .non) (fun x hx K1 K2 h1 => ?_) ?_
      · obtain ⟨a, _, rfl⟩ := List.mem_map.mp hx
        exact ⟨a, rfl, h1⟩
      · rw [all_arB]
        walk_at "w"
        rw [asBls_map]
        walk_at "w"
        have ea : (as.map arB).all id = as.all arB := by rw [List.all_map]; rfl
        refine brn_by (fun k => ?_) fun k => ?_
        · have k' : as.all arB = false := by
            have : (!((as.map arB).all id)) = true := k
            rw [ea] at this
            simpa using this
          rw [k', Bool.false_and] at q
          exact q
        · have k' : as.all arB = true := by
            have : (!((as.map arB).all id)) = false := k
            rw [ea] at this
            simpa using this
          rw [k', Bool.true_and] at q
          exact r_is_writer_1 nm as p c M Q _ _ _ _ g9 q
theorem r_is_writer (ds : List D) (M : Mp) (Q : DK) (E : DX) (hl : ds.length = 1) (h : sp_is_writer ds M Q E) : t_is_writer { nx := fun _ M' => Q .non M', rt := Q } (startD ["thing", "keys", "name", "arrows", "patience", "cap", "arrow"] ds) M := by
  obtain ⟨ts, rfl, h⟩ := h
  walk_at "w"
  refine ⟨⟨rfl, rfl⟩, ?_⟩
  walk_at "w"
  refine brn_by (fun g => ?_) fun g => ?_
  · rcases h with ⟨_, q⟩ | ⟨nm, as, p, c, rfl, _, _⟩
    · exact q
    · cases g
  · rcases h with ⟨hn, q⟩ | ⟨nm, as, p, c, rfl, h9, q⟩
    · have g' : (!((ts.length : Int) == 4)) = false := g
      have : (ts.length : Int) = 4 := by simpa using g'
      omega
    · exact r_is_writer_2 nm as p c M Q _ _ _ _ _ _ _ h9 q
def sp_law_is_writer : SpD := sp_is_writer
def t_law_is_writer_1 : DS := (dSeq (dSet 1 (dLc (iTpl (dBin rIxD (dVar 0) (dC (.int 1)))) (.name 7) dYes (dSl (dVar 7) dNoPart (dPart (dC (.int 2)))) [7]))
    (dSeq (dSet 2 (dUn rAllD (dLc (iRange1 (dCons (dBin rSubI (dUn rLenD (dVar 1)) (dC (.int 1))) dNil)) (.name 8) dYes (dBin rLtD (dBin rIxD (dVar 1) (dVar 8)) (dBin rIxD (dVar 1) (dBin rAddD (dVar 8) (dC (.int 1))))) [8])))
    (dRet (dAndV (dVar 2) (dAndV (dChain rLeI rLeI (dC (.int 0)) (dBin rIxD (dVar 0) (dC (.int 2))) (dC (.int 3))) (dChain rLeI rLeI (dC (.int 0)) (dBin rIxD (dVar 0) (dC (.int 3))) (dC (.int 3))))))))
def t_law_is_writer_2 : DS := (dSeq (dFor (iTpl (dBin rIxD (dVar 0) (dC (.int 1)))) (.tup [(.name 3), (.name 4), (.name 5)]) (dSeq (dSet 6 (dAndV (dChain rLeI rLeI (dC (.int 0)) (dVar 3) (dC (.int 2))) (dAndV (dChain rLeI rLeI (dC (.int 0)) (dVar 5) (dC (.int 2))) (dBin (rEqDD id) (dUn rLenD (dVar 4)) (dC (.int 1))))))
    (dIfS (dOr (dNot (dTru (dVar 6))) (dNot (dTru (dCall sp_law_is_name (dCons (dVar 4) dNil))))) (dRet (dC (.bl false))) dNext)))
    t_law_is_writer_1)
def t_law_is_writer : DS := (dSeq (dIfS (dOr (dTest (dBin (rEqDD not) (dUn rLenD (dVar 0)) (dC (.int 4)))) (dOr (dNot (dTru (dCall sp_law_is_name (dCons (dBin rIxD (dVar 0) (dC (.int 0))) dNil)))) (dTest (dBin rGtI (dUn rLenD (dBin rIxD (dVar 0) (dC (.int 1)))) (dC (.int 9)))))) (dRet (dC (.bl false))) dNext)
    t_law_is_writer_2)
theorem dataLt_ky {a b : Ar} : PySem.W.dataLt (kyD a).py (kyD b).py = decide (arLt a b) := by
  have h := leD_ky (a := b) (b := a)
  have e : leD (kyD b) (kyD a) = !PySem.W.dataLt (kyD a).py (kyD b).py := rfl
  rw [e] at h
  cases hd : PySem.W.dataLt (kyD a).py (kyD b).py with
  | true =>
    rw [hd] at h
    refine (decide_eq_true ?_).symm
    apply Classical.byContradiction
    intro n
    exact absurd (h.mpr n) (by decide)
  | false =>
    rw [hd] at h
    exact (decide_eq_false (h.mp rfl)).symm
/-- each before the next: all in order -/
theorem steps_rise : ∀ (as : List Ar), (∀ k, ∀ a b, as[k]? = some a → as[k + 1]? = some b → arLt a b) ↔ as.Pairwise arLt
  | [] => by simp
  | [a] => by simp
  | a :: b :: as => by
    rw [List.pairwise_cons, ← steps_rise (b :: as)]
    constructor
    · intro h
      have h2 : ∀ k, ∀ x y, (b :: as)[k]? = some x → (b :: as)[k + 1]? = some y → arLt x y := fun k x y h1 h2 => h (k + 1) x y (by simpa using h1) (by simpa using h2)
      have hab : arLt a b := h 0 a b rfl rfl
      refine ⟨fun c hc => ?_, h2⟩
      rcases List.mem_cons.mp hc with rfl | hc
      · exact hab
      · exact arLt_trans hab ((List.pairwise_cons.mp ((steps_rise (b :: as)).mp h2)).1 c hc)
    · rintro ⟨h1, h2⟩ k x y hx hy
      cases k with
      | zero =>
        cases hx
        exact h1 y (List.mem_of_getElem? hy)
      | succ k => exact h2 k x y (by simpa using hx) (by simpa using hy)
def stepB (as : List Ar) (k : Nat) : Bool := match as[k]?, as[k + 1]? with
  | some a, some b => decide (arLt a b)
  | _, _ => true
theorem steps_all (as : List Ar) : ((List.range (as.length - 1)).map (stepB as)).all id = decide (as.Pairwise arLt) := by
  rw [Bool.eq_iff_iff, decide_eq_true_eq, ← steps_rise, List.all_map, List.all_eq_true]
  constructor
  · intro h k a b ha hb
    have hk := (List.getElem?_eq_some_iff.mp hb).1
    have := h k (List.mem_range.mpr (by omega))
    simp only [Function.comp, stepB, ha, hb, id] at this
    exact of_decide_eq_true this
  · intro h k hk
    have hk := List.mem_range.mp hk
    have h1 : k < as.length := by omega
    have h2 : k + 1 < as.length := by omega
    simp only [Function.comp, stepB, List.getElem?_eq_getElem h1, List.getElem?_eq_getElem h2, id]
    exact decide_eq_true (h k _ _ (List.getElem?_eq_getElem h1) (List.getElem?_eq_getElem h2))
theorem Ev.ixT {t : DE} {env : DEnv} {M : Mp} {ds : List D} {i : Int} {d : D} (h : Ev t env M (.tup ds)) (hi : atI ds i = some d) : Ev (dBin rIxD t (dC (.int i))) env M d := fun K q => by
  refine h _ ?_
  walk_at "w"
  rw [hi]
  exact q
theorem r_law_is_writer_1 (nm : Str) (as : List Ar) (p c : Int) (M : Mp) (Q : DK) (nx : DEnv → Mp → Prop) (e1 e2 e3 e4 e5 e6 e7 e8 : Option D) (h9 : as.length ≤ 9)
    (q : Q (.bl (decide (as.Pairwise arLt) && ((decide (0 ≤ p) && decide (p ≤ 3)) && (decide (0 ≤ c) && decide (c ≤ 3))))) M) :
    t_law_is_writer_1 { nx := nx, rt := Q } [some (.tup (thD nm as [p, c])), e1, e2, e3, e4, e5, e6, e7, e8] M := by
  walk_at "w"
  refine lc_map (fun d => match d with
    | .tup (x :: y :: _) => .tup [x, y]
    | _ => .non) (fun x hx K1 K2 h1 => ?_) ?_
  · obtain ⟨a, _, rfl⟩ := List.mem_map.mp hx
    exact h1
  · have e : (as.map arD).map (fun d => match d with
        | .tup (x :: y :: _) => D.tup [x, y]
        | _ => .non) = as.map kyD := by rw [List.map_map]; rfl
    rw [e]
    walk_at "w"
    rw [List.length_map]
    refine ⟨⟨by omega, by omega⟩, ?_⟩
    have en : ((as.length : Int) - 1).toNat = as.length - 1 := by omega
    rw [en]
    walk_at "w"
    refine lc_map (fun d => match d with
      | .int k => .bl (stepB as k.toNat)
      | _ => .non) (fun x hx K1 K2 h1 => ?_) ?_
    · obtain ⟨k, hk⟩ := List.getElem?_of_mem hx
      obtain ⟨hlt, rfl⟩ := rng_at hk
      have k1 : k < as.length := by omega
      have k2 : k + 1 < as.length := by omega
      have a1 : atI (as.map kyD) (0 + (k : Int)) = some (kyD as[k]) := by
        rw [Int.zero_add]
        exact atI_of (by rw [List.getElem?_map, List.getElem?_eq_getElem k1]; rfl)
      have a2 : atI (as.map kyD) (0 + (k : Int) + 1) = some (kyD as[k + 1]) := by
        rw [Int.zero_add, show (k : Int) + 1 = ((k + 1 : Nat) : Int) by omega]
        exact atI_of (by rw [List.getElem?_map, List.getElem?_eq_getElem k2]; rfl)
      walk_at "w"
      rw [a1]
      walk_at "w"
      rw [a2]
      walk_at "w"
      refine ⟨⟨rfl, rfl, by simp [kyD, D.py, D.pys, PySem.W.alike, PySem.W.alikeAll], by simp [kyD, D.py]⟩, ?_⟩
      have hs : stepB as (0 + (k : Int)).toNat = PySem.W.dataLt (kyD as[k]).py (kyD as[k + 1]).py := by
        rw [dataLt_ky, show (0 + (k : Int)).toNat = k by omega]
        simp only [stepB, List.getElem?_eq_getElem k1, List.getElem?_eq_getElem k2]
      have h1' : K1 (.bl (stepB as (0 + (k : Int)).toNat)) M := h1
      rw [hs] at h1'
      exact h1'
    · have em : (rng 0 (as.length - 1)).map (fun d => match d with
          | .int k => D.bl (stepB as k.toNat)
          | _ => .non) = ((List.range (as.length - 1)).map (stepB as)).map D.bl := by
        unfold rng
        rw [List.map_map, List.map_map]
        refine List.map_congr_left fun k _ => ?_
        show D.bl (stepB as (0 + (k : Int)).toNat) = D.bl (stepB as k)
        rw [show (0 + (k : Int)).toNat = k by omega]
      rw [em]
      walk_at "w"
      rw [asBls_map]
      show dAndV (dVar 2) (dAndV (dChain rLeI rLeI (dC (.int 0)) (dBin rIxD (dVar 0) (dC (.int 2))) (dC (.int 3))) (dChain rLeI rLeI (dC (.int 0)) (dBin rIxD (dVar 0) (dC (.int 3))) (dC (.int 3)))) [some (.tup (thD nm as [p, c])), some (.lst (as.map kyD)), some (.bl (((List.range (as.length - 1)).map (stepB as)).all id)), e3, e4, e5, e6, e7, e8] M Q
      rw [steps_all]
      exact Ev.and (b := decide (as.Pairwise arLt)) (fun K q => q) (fun _ => by exact Ev.and (Ev.chain .c (Ev.ixT (ds := thD nm as [p, c]) (fun K q => q) atI_2) .c) fun _ => by exact Ev.chain .c (Ev.ixT (ds := thD nm as [p, c]) (fun K q => q) atI_3) .c) _ q
end L3
set_option Elab.async false
set_option linter.all false
set_option maxRecDepth 100000
set_option maxHeartbeats 1000000
namespace L3
open PySem PySem.Spec PyProof.Rows L2
section
variable {X : Cx}
def twiceS (x : Str) (k : Int) : Str := if k = 1 then x else x ++ x
def rMulSV : R2 := fun x y H Q => ∃ (z : Str) (k : Int), x = .str z ∧ y = .int k ∧ (k = 1 ∨ k = 2) ∧ 0 < z.length ∧ z.length ≤ 1000 ∧ Q (.str (twiceS z k)) H
theorem op_mulSV : OpR X (binaryOp .Mult) rMulSV := by
  intro pins s σ H x y v u Q I rx ry ⟨z, k, ex, ey, hk, h0, h1, q⟩
  subst ex ey
  obtain ⟨t, rfl⟩ := rx
  obtain ⟨t', rfl⟩ := ry
  have sl : (sizeLine : Nat) = 16777216 := sizeLine_eq
  refine PySem.P.mul_str ?_ (fun _ _ => ?_) (fun _ _ => ?_) ?_
  · rcases hk with rfl | rfl <;> decide
  · rcases hk with rfl | rfl
    · have : ((2 ^ 63 - 1) / 1 : Int) = 9223372036854775807 := by decide
      rw [this]; omega
    · have : ((2 ^ 63 - 1) / 2 : Int) = 4611686018427387903 := by decide
      rw [this]; omega
  · unfold Builtin.Str.tooLong
    rcases hk with rfl | rfl
    · simp; omega
    · simp; omega
  · rcases hk with rfl | rfl
    · rw [if_neg (by decide), if_pos (by simp)]
      exact ⟨.str z, H, I, ⟨t, rfl⟩, by unfold twiceS at q; rw [if_pos rfl] at q; exact q⟩
    · rw [if_neg (by decide), if_neg (by simp; omega)]
      have e : (⟨(List.replicate (2 : Int).toNat z.cps).foldl (· ++ ·) #[]⟩ : Str) = z ++ z := by
        show (⟨(#[] ++ z.cps) ++ z.cps⟩ : Str) = ⟨z.cps ++ z.cps⟩
        simp
      rw [e]
      refine ⟨by show (z.cps ++ z.cps).size ≤ _; rw [Array.size_append]; have : z.cps.size ≤ 1000 := h1; omega, .str (z ++ z), H, I.tok _, ⟨_, rfl⟩, ?_⟩
      unfold twiceS at q
      rw [if_neg (by decide)] at q
      exact q
def rMulS : R2D := fun d e M Q => match d, e with
  | .str x, .int k => ((k = 1 ∨ k = 2) ∧ 0 < x.length ∧ x.length ≤ 1000) ∧ Q (.str (twiceS x k)) M
  | _, _ => False
theorem sok_app {x y : Str} (h1 : SOk x) (h2 : SOk y) (hl : x.length + y.length ≤ sizeLine) : SOk (x ++ y) := by
  refine ⟨?_, fun c hc => ?_⟩
  · show (x.cps ++ y.cps).size ≤ _
    rw [Array.size_append]; exact hl
  · have hc : c ∈ (x.cps ++ y.cps).toList := hc
    rw [Array.toList_append] at hc
    rcases List.mem_append.mp hc with h | h
    · exact h1.2 c h
    · exact h2.2 c h
theorem opd_mulS : OpD X (binaryOp .Mult) rMulS := ⟨_, op_mulSV, fun R F M H d e x y Qd Q a r1 r2 q kd => by
  unfold rMulS at q
  split at q
  · rename_i z k
    obtain ⟨r1, ok⟩ := r1
    refine ⟨z, k, r1, r2, q.1.1, q.1.2.1, q.1.2.2, kd F H M (.str _) _ (Same.refl _) a ⟨rfl, ?_⟩ q.2⟩
    unfold twiceS
    have := q.1.2.2
    split
    · exact ok
    · exact sok_app ok ok (by rw [sizeLine_eq]; omega)
  · exact q.elim⟩
end
end L3
set_option Elab.async false
set_option linter.all false
set_option maxRecDepth 100000
set_option maxHeartbeats 1000000
namespace L3
open PySem PySem.Spec PyProof.Rows L2
theorem part_sub {x y : Str} {cuts : List Nat} {w : Nat} (h : y ∈ Builtin.Str.partsBetween x cuts w) : y.length ≤ x.length ∧ ∀ c ∈ y.cps.toList, c ∈ x.cps.toList := by
  unfold Builtin.Str.partsBetween at h
  obtain ⟨⟨i, j⟩, _, rfl⟩ := List.mem_map.mp h
  show (x.cps.extract i j).size ≤ x.cps.size ∧ ∀ c ∈ (x.cps.extract i j).toList, _
  refine ⟨by rw [Array.size_extract]; omega, fun c hc => ?_⟩
  rw [Array.toList_extract] at hc
  exact List.mem_of_mem_drop (List.mem_of_mem_take hc)
theorem split_parts {x sep : Str} : (Txt.split x sep).length ≤ x.length + 2 ∧ ∀ y ∈ Txt.split x sep, y.length ≤ x.length ∧ ∀ c ∈ y.cps.toList, c ∈ x.cps.toList := by
  unfold Txt.split
  split
  · exact ⟨by simp, fun y hy => by rw [List.mem_singleton.mp hy]; exact ⟨Nat.le_refl _, fun c h => h⟩⟩
  · split
    · exact ⟨by simp, fun y hy => by rw [List.mem_singleton.mp hy]; exact ⟨Nat.le_refl _, fun c h => h⟩⟩
    · refine ⟨?_, fun y hy => part_sub hy⟩
      rw [length_partsBetween]
      have := PySem.StrLaws.occ_length_le x sep 0 x.length (x.length + 1)
      omega
theorem parts_sok {x sep : Str} (hx : SOk x) : ∀ y ∈ Txt.split x sep, SOk y := fun y hy => by
  obtain ⟨h1, h2⟩ := split_parts.2 y hy
  exact ⟨Nat.le_trans h1 hx.1, fun c hc => hx.2 c (h2 c hc)⟩
def figB (c : Nat) : Bool := decide (48 ≤ c) && decide (c ≤ 51)
def fig2 (c : Nat) : Bool := decide (48 ≤ c) && decide (c ≤ 50)
theorem strIn_figs (c : Nat) : strIn ⟨#[c]⟩ "0123" = figB c := by
  unfold strIn
  rw [PySem.StrLaws.found_one, Bool.eq_iff_iff, decide_eq_true_eq]
  show c ∈ [48, 49, 50, 51] ↔ _
  unfold figB
  simp
  omega
theorem strIn_fig2 (c : Nat) : strIn ⟨#[c]⟩ "012" = fig2 c := by
  unfold strIn
  rw [PySem.StrLaws.found_one, Bool.eq_iff_iff, decide_eq_true_eq]
  show c ∈ [48, 49, 50] ↔ _
  unfold fig2
  simp
  omega
theorem fig_int {c : Nat} (h : figB c = true) : PySem.intText? (⟨#[c]⟩ : Str) = some ((c - 48 : Nat) : Int) := by
  unfold figB at h
  simp at h
  have : c = 48 ∨ c = 49 ∨ c = 50 ∨ c = 51 := by omega
  rcases this with rfl | rfl | rfl | rfl <;> decide +kernel
theorem fig_of {c : Nat} (h : fig2 c = true) : figB c = true := by
  unfold fig2 at h; unfold figB; simp at h ⊢; omega
def arPr (x : Str) : Option Ar := match x.cps.toList with
  | [a, b, c] => if figB a = true ∧ figB c = true then some ⟨((a - 48 : Nat) : Int), ⟨#[b]⟩, ((c - 48 : Nat) : Int)⟩ else none
  | _ => none
def allS {α : Type} : List (Option α) → Option (List α)
  | [] => some []
  | some a :: r => (allS r).map fun l => a :: l
  | none :: _ => none
def rowsP (rows : Str) : List (Option Ar) := if rows = "-" then [] else (Txt.split rows ";").map arPr
def endP (nm : Str) (as : List Ar) (p c : Int) : Option Wr := if isWr nm as p c = true then some ⟨nm, as, p, c⟩ else none
def wrP (ps : List Str) : Option Wr := match ps with
  | [nm, rows, p, c] => match p.cps.toList, c.cps.toList with
    | [a], [b] => match allS (rowsP rows) with
      | some as => if figB a = true ∧ figB b = true then endP nm as ((a - 48 : Nat) : Int) ((b - 48 : Nat) : Int) else none
      | none => none
    | _, _ => none
  | _ => none
def arL (x : Str) : Option Ar := match x.cps.toList with
  | [a, b, c] => if isLetter b = true ∧ fig2 a = true ∧ fig2 c = true then some ⟨((a - 48 : Nat) : Int), ⟨#[b]⟩, ((c - 48 : Nat) : Int)⟩ else none
  | _ => none
def rowsL (rows : Str) : List (Option Ar) := if rows = "-" then [] else (Txt.split rows ";").map arL
def wrL (ps : List Str) : Option Wr := match ps with
  | [nm, rows, p, c] => match p.cps.toList, c.cps.toList with
    | [a], [b] => if figB a = true ∧ figB b = true then (match allS (rowsL rows) with
      | some as => endP nm as ((a - 48 : Nat) : Int) ((b - 48 : Nat) : Int)
      | none => none) else none
    | _, _ => none
  | _ => none
theorem arL_some {x : Str} {a : Ar} (h : arL x = some a) : arPr x = some a := by
  unfold arL at h
  unfold arPr
  split at h
  · rename_i p q r e
    split at h
    · rename_i g
      cases h
      show (if figB p = true ∧ figB r = true then _ else _) = _
      rw [if_pos ⟨fig_of g.2.1, fig_of g.2.2⟩]
    · cases h
  · cases h
theorem arP_good {x : Str} {a : Ar} (h : arPr x = some a) (g : arB a = true) : arL x = some a := by
  unfold arPr at h
  unfold arL
  split at h
  · rename_i p q r e
    split at h
    · rename_i k
      cases h
      have g : ((decide ((0 : Int) ≤ ((p - 48 : Nat) : Int)) && decide (((p - 48 : Nat) : Int) ≤ 2)) && (isSign ⟨#[q]⟩ && (decide ((0 : Int) ≤ ((r - 48 : Nat) : Int)) && decide (((r - 48 : Nat) : Int) ≤ 2)))) = true := g
      simp only [Bool.and_eq_true, decide_eq_true_eq] at g
      have k1 := k.1
      have k2 := k.2
      unfold figB at k1 k2
      simp at k1 k2
      have hl : isLetter q = true := by
        have := g.2.1
        rw [isSign_one] at this
        exact this
      show (if isLetter q = true ∧ fig2 p = true ∧ fig2 r = true then _ else _) = _
      rw [if_pos ⟨hl, by unfold fig2; simp; omega, by unfold fig2; simp; omega⟩]
    · cases h
  · cases h
theorem rows_L {xs : List Str} {as : List Ar} (h : allS (xs.map arL) = some as) : allS (xs.map arPr) = some as := by
  induction xs generalizing as with
  | nil => exact h
  | cons x xs ih =>
    rw [List.map_cons] at h ⊢
    cases e : arL x with
    | none => rw [e] at h; cases h
    | some a =>
      rw [e] at h
      rw [arL_some e]
      obtain ⟨l, h1, rfl⟩ := Option.map_eq_some_iff.mp (show (allS (xs.map arL)).map _ = some as from h)
      show (allS (xs.map arPr)).map _ = _
      rw [ih h1]; rfl
theorem rows_P {xs : List Str} {as : List Ar} (h : allS (xs.map arPr) = some as) (g : as.all arB = true) : allS (xs.map arL) = some as := by
  induction xs generalizing as with
  | nil => exact h
  | cons x xs ih =>
    rw [List.map_cons] at h ⊢
    cases e : arPr x with
    | none => rw [e] at h; cases h
    | some a =>
      rw [e] at h
      obtain ⟨l, h1, rfl⟩ := Option.map_eq_some_iff.mp (show (allS (xs.map arPr)).map _ = some as from h)
      rw [List.all_cons, Bool.and_eq_true] at g
      rw [arP_good e g.1]
      show (allS (xs.map arL)).map _ = _
      rw [ih h1 g.2]; rfl
theorem rowsP_L {rows : Str} {as : List Ar} : (allS (rowsL rows) = some as → allS (rowsP rows) = some as) ∧ (allS (rowsP rows) = some as → as.all arB = true → allS (rowsL rows) = some as) := by
  unfold rowsL rowsP
  split
  · exact ⟨id, fun h _ => h⟩
  · exact ⟨rows_L, rows_P⟩
theorem endP_bad {nm : Str} {as : List Ar} {p c : Int} (h : as.all arB = false) : endP nm as p c = none := by
  unfold endP
  rw [if_neg]
  unfold isWr
  rw [h]
  simp
theorem wr_same (ps : List Str) : wrP ps = wrL ps := by
  unfold wrP wrL
  split
  · rename_i nm rows p c
    split
    · rename_i a b _ _
      by_cases g : figB a = true ∧ figB b = true
      · rw [if_pos g]
        cases hP : allS (rowsP rows) with
        | none =>
          cases hL : allS (rowsL rows) with
          | none => rfl
          | some as => rw [rowsP_L.1 hL] at hP; cases hP
        | some as =>
          show (if figB a = true ∧ figB b = true then _ else _) = _
          rw [if_pos g]
          cases hb : as.all arB with
          | true => rw [rowsP_L.2 hP hb]
          | false =>
            rw [endP_bad hb]
            cases hL : allS (rowsL rows) with
            | none => rfl
            | some as' =>
              have := rowsP_L.1 hL
              rw [hP] at this; cases this
              show none = endP _ _ _ _
              rw [endP_bad hb]
      · rw [if_neg g]
        cases allS (rowsP rows) with
        | none => rfl
        | some as =>
          show (if figB a = true ∧ figB b = true then _ else _) = _
          rw [if_neg g]
    · rfl
  · rfl
end L3
set_option Elab.async false
set_option linter.all false
set_option maxRecDepth 100000
set_option maxHeartbeats 1000000
namespace L3
open PySem PySem.Spec PyProof.Rows L2
local macro_rules | `(tactic| walk_at "w") => `(tactic| conv => whnf)
def numS (i : Int) : Str := Str.ofString (toString i)
def arTx (a : Ar) : Str := numS a.at_ ++ a.sg ++ numS a.to
def rowTx (as : List Ar) : Str := if as = [] then "-" else Txt.join ";" (as.map arTx)
def wrTx (w : Wr) : Str := w.name ++ "/" ++ rowTx w.ar ++ "/" ++ numS w.pat ++ "/" ++ numS w.cap
/-- a figure 0 to 3 -/
theorem dig {i : Int} (h0 : 0 ≤ i) (h1 : i ≤ 3) : ∃ n : Nat, n ≤ 3 ∧ i = (n : Int) ∧ numS i = ⟨#[48 + n]⟩ := by
  obtain ⟨n, rfl⟩ := Int.eq_ofNat_of_zero_le h0
  refine ⟨n, by omega, rfl, ?_⟩
  have : n = 0 ∨ n = 1 ∨ n = 2 ∨ n = 3 := by omega
  rcases this with rfl | rfl | rfl | rfl <;> decide +kernel
def sp_law_writer_text : SpD := fun ds M Q _ => ∃ w, WrOk w ∧ ds = [wrD w] ∧ Q (.str (wrTx w)) M
theorem arTx_eq {a : Ar} (h : ArOk a) : ∃ m c n : Nat, m ≤ 2 ∧ n ≤ 2 ∧ isLetter c = true ∧ a = ⟨m, ⟨#[c]⟩, n⟩ ∧ arTx a = ⟨#[48 + m, c, 48 + n]⟩ := by
  obtain ⟨c, hc, hl⟩ := h.sg
  obtain ⟨m, hm, em, tm⟩ := dig h.at0 (Int.le_trans h.at1 (by decide))
  obtain ⟨n, hn, en, tn⟩ := dig h.to0 (Int.le_trans h.to1 (by decide))
  have h1 := h.at1
  have h2 := h.to1
  refine ⟨m, c, n, by omega, by omega, hl, ?_, ?_⟩
  · cases a
    simp only [Ar.mk.injEq]
    exact ⟨em, hc, en⟩
  · unfold arTx
    rw [tm, tn, hc]
    rfl
def t_law_writer_text : DS := (dSeq (dSet 1 (dLc (iTpl (dBin rIxD (dVar 0) (dC (.int 1)))) (.tup [(.name 2), (.name 3), (.name 4)]) dYes (dBin rAddD (dBin rAddD (dUn rStrD (dVar 2)) (dVar 3)) (dUn rStrD (dVar 4))) [2, 3, 4]))
    (dRet (dBin rAddD (dBin rAddD (dBin rAddD (dBin rAddD (dBin rAddD (dBin rAddD (dBin rIxD (dVar 0) (dC (.int 0))) (dC (.str "/"))) (dOrV (dJoin (dC (.str ";")) (dVar 1)) (dC (.str "-")))) (dC (.str "/"))) (dUn rStrD (dBin rIxD (dVar 0) (dC (.int 2))))) (dC (.str "/"))) (dUn rStrD (dBin rIxD (dVar 0) (dC (.int 3)))))))
theorem join_ge {a x : Str} {ys : List Str} : x.length ≤ (Txt.join a (x :: ys)).length := by
  have e : (Txt.join a (x :: ys)).cps.toList = TL.joinL a.cps.toList ((x :: ys).map fun y => y.cps.toList) := by
    rw [TL.join_eq]; exact TL.tl_join a (x :: ys)
  show x.cps.size ≤ (Txt.join a (x :: ys)).cps.size
  rw [← Array.length_toList, ← Array.length_toList, e]
  cases ys with
  | nil => exact Nat.le_refl _
  | cons y ys =>
    show _ ≤ (x.cps.toList ++ (a.cps.toList ++ TL.joinL a.cps.toList _)).length
    rw [List.length_append]; omega
theorem rows_len {as : List Ar} (h : ∀ a ∈ as, ArOk a) : ((as.map arTx).map (·.length)).sum = 3 * as.length := by
  induction as with
  | nil => rfl
  | cons a as ih =>
    obtain ⟨m, c, n, _, _, _, _, e⟩ := arTx_eq (h a (List.mem_cons_self ..))
    rw [List.map_cons, List.map_cons, List.sum_cons, ih fun b hb => h b (List.mem_cons_of_mem _ hb), e, List.length_cons]
    show 3 + _ = _
    omega
theorem str_app_len {x y : Str} : (x ++ y).length = x.length + y.length := by
  show (x.cps ++ y.cps).size = _
  rw [Array.size_append]; rfl
def arTxD : D → D
  | .tup [.int p, .str s, .int t] => .str (numS p ++ s ++ numS t)
  | d => d
theorem rows_txs (as : List Ar) : (as.map arD).map arTxD = (as.map arTx).map D.str := by
  rw [List.map_map, List.map_map]; rfl
theorem numS_len {n : Nat} (h : n ≤ 3) : numS (n : Int) = ⟨#[48 + n]⟩ := by
  have : n = 0 ∨ n = 1 ∨ n = 2 ∨ n = 3 := by omega
  rcases this with rfl | rfl | rfl | rfl <;> decide +kernel
theorem small_log {n : Nat} (h : n ≤ 3) : (n : Int).natAbs.log2 < 1920 := by
  have : n = 0 ∨ n = 1 ∨ n = 2 ∨ n = 3 := by omega
  rcases this with rfl | rfl | rfl | rfl <;> decide +kernel
theorem r_law_writer_text (ds : List D) (M : Mp) (Q : DK) (E : DX) (hl : ds.length = 1) (h : sp_law_writer_text ds M Q E) : t_law_writer_text { nx := fun _ M' => Q .non M', rt := Q } (startD ["_law_writer_here", "_law_rows", "_law_place", "_law_sign", "_law_to"] ds) M := by
  obtain ⟨w, hw, rfl, q⟩ := h
  walk_at "w"
  refine lc_map arTxD (fun x hx K1 K2 hK => ?_) ?_
  · obtain ⟨a, ha, rfl⟩ := List.mem_map.mp hx
    obtain ⟨m, c, n, hm, hn, hc, rfl, e⟩ := arTx_eq (hw.ar a ha)
    walk_at "w"
    have lm : (Str.ofString (toString (m : Int))).length = 1 := by rw [show Str.ofString (toString (m : Int)) = _ from numS_len (n := m) (by omega)]; rfl
    have ln : (Str.ofString (toString (n : Int))).length = 1 := by rw [show Str.ofString (toString (n : Int)) = _ from numS_len (n := n) (by omega)]; rfl
    refine ⟨small_log (by omega), ?_⟩
    walk_at "w"
    refine ⟨by show (Str.ofString (toString (m : Int))).length + 1 ≤ sizeLine; rw [lm]; decide, ?_⟩
    walk_at "w"
    refine ⟨small_log (by omega), ?_⟩
    walk_at "w"
    refine ⟨?_, hK⟩
    show (Str.ofString (toString (m : Int)) ++ (⟨#[c]⟩ : Str)).length + (Str.ofString (toString (n : Int))).length ≤ sizeLine
    rw [show Str.ofString (toString (m : Int)) = _ from numS_len (n := m) (by omega), ln]
    show 2 + 1 ≤ sizeLine
    decide
  · rw [rows_txs]
    have hnm : w.name.length ≤ 6 := by
      have := hw.name
      unfold isName at this
      simp only [Bool.and_eq_true, decide_eq_true_eq] at this
      omega
    have hrl := rows_len hw.ar
    have hfw := hw.few
    have hJ := join_len (a := Str.ofString ";") (ys := w.ar.map arTx)
    have h1 : (Str.ofString ";").length = 1 := by decide +kernel
    rw [hrl, h1, List.length_map] at hJ
    walk_at "w"
    refine ⟨by have h2 : (Str.ofString "/").length = 1 := by decide +kernel
               rw [h2]; exact Nat.le_trans (Nat.add_le_add_right hnm 1) (by decide), ?_⟩
    walk_at "w"
    rw [asStrs_map]
    walk_at "w"
    refine ⟨by rw [hrl, h1, List.length_map]; omega, ?_⟩
    walk_at "w"
    have h2 : (Str.ofString "/").length = 1 := by decide +kernel
    obtain ⟨p, hp, ep, tp⟩ := dig hw.pat0 hw.pat1
    obtain ⟨g, hg, eg, tg⟩ := dig hw.cap0 hw.cap1
    have fin : ∀ J : Str, J.length ≤ 40 → w.name ++ Str.ofString "/" ++ J ++ Str.ofString "/" ++ numS w.pat ++ Str.ofString "/" ++ numS w.cap = wrTx w →
        (dBin rAddD (dBin rAddD (dBin rAddD (dBin rAddD (dBin rAddD (dC (.str (w.name ++ Str.ofString "/"))) (dC (.str J))) (dC (.str "/"))) (dUn rStrD (dC (.int w.pat)))) (dC (.str "/"))) (dUn rStrD (dC (.int w.cap)))) [] M Q := by
      intro J hJ e
      have lp : (Str.ofString (toString w.pat)).length = 1 := by rw [show Str.ofString (toString w.pat) = _ from tp]; rfl
      have lg : (Str.ofString (toString w.cap)).length = 1 := by rw [show Str.ofString (toString w.cap) = _ from tg]; rfl
      have big : (60 : Nat) ≤ sizeLine := by decide
      refine ⟨by rw [str_app_len, h2]; omega, by simp only [str_app_len, h2]; omega, by rw [ep]; exact small_log hp, by simp only [str_app_len, h2, lp]; omega, by simp only [str_app_len, h2, lp]; omega, by rw [eg]; exact small_log hg, by simp only [str_app_len, h2, lp, lg]; omega, ?_⟩
      rw [show w.name ++ Str.ofString "/" ++ J ++ Str.ofString "/" ++ Str.ofString (toString w.pat) ++ Str.ofString "/" ++ Str.ofString (toString w.cap) = wrTx w from e]
      exact q
    refine brn_by (fun h => ?_) fun h => ?_
    · refine fin _ (by omega) ?_
      have hne : w.ar ≠ [] := fun e => by rw [e] at h; exact absurd h (by decide +kernel)
      unfold wrTx rowTx
      rw [if_neg hne]
    · have he : w.ar = [] := by
        cases ha : w.ar with
        | nil => rfl
        | cons a as =>
          exfalso
          rw [ha] at h
          obtain ⟨m, c, n, _, _, _, _, e⟩ := arTx_eq (hw.ar a (by rw [ha]; exact List.mem_cons_self ..))
          have hg := join_ge (a := Str.ofString ";") (x := arTx a) (ys := as.map arTx)
          rw [e] at hg
          have h3 : (⟨#[48 + m, c, 48 + n]⟩ : Str).length = 3 := rfl
          rw [h3] at hg
          rw [List.map_cons] at h
          simp only [e] at h
          have : ¬ ((((Txt.join (Str.ofString ";") (⟨#[48 + m, c, 48 + n]⟩ :: as.map arTx)).length : Int) != 0) = false) := by
            rw [bne_eq_false_iff_eq]; omega
          exact this h
      refine fin "-" (by decide +kernel) ?_
      unfold wrTx rowTx
      rw [if_pos he]
abbrev chs (x : Str) : List Nat := x.cps.toList
theorem join_mem {a : Str} {ys : List Str} {c : Nat} (h : c ∈ chs (Txt.join a ys)) : c ∈ chs a ∨ ∃ y ∈ ys, c ∈ chs y := by
  have e : (Txt.join a ys).cps.toList = TL.joinL a.cps.toList (ys.map fun y => y.cps.toList) := by
    rw [TL.join_eq]; exact TL.tl_join a ys
  unfold chs at h
  rw [e] at h
  rcases joinL_mem h with h | ⟨z, hz, hc⟩
  · exact .inl h
  · obtain ⟨y, hy, rfl⟩ := List.mem_map.mp hz
    exact .inr ⟨y, hy, hc⟩
theorem arTx_ch {a : Ar} (h : ArOk a) {c : Nat} (hc : c ∈ chs (arTx a)) : (48 ≤ c ∧ c ≤ 50) ∨ isLetter c = true := by
  obtain ⟨m, s, n, hm, hn, hs, _, e⟩ := arTx_eq h
  rw [e] at hc
  have hc' : c ∈ [48 + m, s, 48 + n] := hc
  simp only [List.mem_cons, List.not_mem_nil, or_false] at hc'
  rcases hc' with rfl | rfl | rfl
  · exact .inl (by omega)
  · exact .inr hs
  · exact .inl (by omega)
theorem letter_rng {c : Nat} (h : isLetter c = true) : 97 ≤ c ∧ c ≤ 122 := by
  unfold isLetter at h
  simpa using h
theorem rowTx_ch {as : List Ar} (h : ∀ a ∈ as, ArOk a) {c : Nat} (hc : c ∈ chs (rowTx as)) : c = 45 ∨ c = 59 ∨ (48 ≤ c ∧ c ≤ 50) ∨ (97 ≤ c ∧ c ≤ 122) := by
  unfold rowTx at hc
  split at hc
  · have : c ∈ [45] := hc
    simp only [List.mem_cons, List.not_mem_nil, or_false] at this
    exact .inl this
  · rcases join_mem hc with hc | ⟨y, hy, hc⟩
    · have : c ∈ [59] := hc
      simp only [List.mem_cons, List.not_mem_nil, or_false] at this
      exact .inr (.inl this)
    · obtain ⟨a, ha, rfl⟩ := List.mem_map.mp hy
      rcases arTx_ch (h a ha) hc with q | q
      · exact .inr (.inr (.inl q))
      · exact .inr (.inr (.inr (letter_rng q)))
theorem name_ch {x : Str} (h : isName x = true) {c : Nat} (hc : c ∈ chs x) : 97 ≤ c ∧ c ≤ 122 := by
  unfold isName at h
  simp only [Bool.and_eq_true, List.all_eq_true] at h
  exact letter_rng (h.2.2 c hc)
theorem name_len {x : Str} (h : isName x = true) : 0 < x.length ∧ x.length ≤ 6 := by
  unfold isName at h
  simp only [Bool.and_eq_true, decide_eq_true_eq] at h
  exact ⟨h.1, h.2.1⟩
theorem rowTx_len {as : List Ar} (h : ∀ a ∈ as, ArOk a) (h9 : as.length ≤ 9) : (rowTx as).length ≤ 40 := by
  unfold rowTx
  split
  · decide +kernel
  · have hJ := join_len (a := Str.ofString ";") (ys := as.map arTx)
    have h1 : (Str.ofString ";").length = 1 := by decide +kernel
    rw [rows_len h, h1, List.length_map] at hJ
    omega
theorem dig_ch {i : Int} (h0 : 0 ≤ i) (h1 : i ≤ 3) {c : Nat} (hc : c ∈ chs (numS i)) : 48 ≤ c ∧ c ≤ 51 := by
  obtain ⟨n, hn, _, e⟩ := dig h0 h1
  rw [e] at hc
  have : c ∈ [48 + n] := hc
  simp only [List.mem_cons, List.not_mem_nil, or_false] at this
  omega
theorem sok_ch {x : Str} (hl : x.length ≤ 1000) (h : ∀ c ∈ chs x, c < 1000) : SOk x := ⟨Nat.le_trans hl (by decide), fun c hc => by have := h c hc; omega⟩
theorem wrTx_len {w : Wr} (h : WrOk w) : (wrTx w).length ≤ 60 := by
  obtain ⟨p, hp, ep, tp⟩ := dig h.pat0 h.pat1
  obtain ⟨g, hg, eg, tg⟩ := dig h.cap0 h.cap1
  have h2 : (Str.ofString "/").length = 1 := by decide +kernel
  have h3 := (name_len h.name).2
  have h4 := rowTx_len h.ar h.few
  have lp : (numS w.pat).length = 1 := by rw [tp]; rfl
  have lg : (numS w.cap).length = 1 := by rw [tg]; rfl
  show (w.name ++ Str.ofString "/" ++ rowTx w.ar ++ Str.ofString "/" ++ numS w.pat ++ Str.ofString "/" ++ numS w.cap).length ≤ 60
  simp only [str_app_len, h2, lp, lg]
  omega
theorem wr_le (w : Wr) : D.le 6 (wrD w) = true := by
  unfold wrD
  simp only [D.le, D.les, Bool.and_true, Bool.true_and]
  exact les_of fun d hd => by obtain ⟨a, _, rfl⟩ := List.mem_map.mp hd; rfl
end L3
set_option Elab.async false
set_option linter.all false
set_option maxRecDepth 100000
set_option maxHeartbeats 1000000
namespace L3
open PySem PySem.Spec PyProof.Rows L2
local macro_rules | `(tactic| walk_at "w") => `(tactic| conv => whnf)
theorem r_law_is_writer_2 (nm : Str) (as : List Ar) (p c : Int) (M : Mp) (Q : DK) (nx : DEnv → Mp → Prop) (e1 e2 e3 e4 e5 e6 e7 e8 : Option D) (h9 : as.length ≤ 9)
    (q : Q (.bl (as.all arB && (decide (as.Pairwise arLt) && ((decide (0 ≤ p) && decide (p ≤ 3)) && (decide (0 ≤ c) && decide (c ≤ 3)))))) M) :
    t_law_is_writer_2 { nx := nx, rt := Q } [some (.tup (thD nm as [p, c])), e1, e2, e3, e4, e5, e6, e7, e8] M := by
  walk_at "w"
  refine for_inv (fun i env M' => M' = M ∧ (∃ e3 e4 e5 e6, env = [some (.tup (thD nm as [p, c])), e1, e2, e3, e4, e5, e6, e7, e8]) ∧ ∀ k a, k < i → as[k]? = some a → arB a = true) ⟨rfl, ⟨_, _, _, _, rfl⟩, fun k a hk => absurd hk (Nat.not_lt_zero _)⟩ (fun i x env M' K hx ⟨eM, ⟨e3, e4, e5, e6, ee⟩, ha⟩ hK => ?_) fun env M' ⟨eM, ⟨e3, e4, e5, e6, ee⟩, ha⟩ => ?_
  · subst eM ee
    rw [List.getElem?_map] at hx
    obtain ⟨a, hai, rfl⟩ := Option.map_eq_some_iff.mp hx
    have no : arB a = false → Q (.bl false) M' := fun h => by
      have : as.all arB = false := by
        rw [List.all_eq_false]
        exact ⟨a, List.mem_of_getElem? hai, by rw [h]; decide⟩
      rw [this, Bool.false_and] at q
      exact q
    have hg : Ev (dAndV (dChain rLeI rLeI (dC (.int 0)) (dVar 3) (dC (.int 2))) (dAndV (dChain rLeI rLeI (dC (.int 0)) (dVar 5) (dC (.int 2))) (dBin (rEqDD id) (dUn rLenD (dVar 4)) (dC (.int 1))))) [some (.tup (thD nm as [p, c])), e1, e2, some (.int a.at_), some (.str a.sg), some (.int a.to), e6, e7, e8] M'
        (.bl ((decide (0 ≤ a.at_) && decide (a.at_ ≤ 2)) && ((decide (0 ≤ a.to) && decide (a.to ≤ 2)) && ((a.sg.length : Int) == 1)))) :=
      by
        refine Ev.and (Ev.chain .c ?_ .c) fun _ => Ev.and (Ev.chain .c ?_ .c) fun _ => ?_
        · exact fun K q => q
        · exact fun K q => q
        · intro K qq
          exact ⟨⟨rfl, rfl⟩, qq⟩
    refine hg _ ?_
    have hl1 : ((a.sg.length : Int) == 1) = decide (a.sg.length = 1) := by
      rw [Bool.eq_iff_iff, beq_iff_eq, decide_eq_true_eq]; omega
    have ear : arB a = (((decide (0 ≤ a.at_) && decide (a.at_ ≤ 2)) && ((decide (0 ≤ a.to) && decide (a.to ≤ 2)) && ((a.sg.length : Int) == 1))) && isName a.sg) := by
      unfold arB isSign
      rw [hl1]
      cases decide (0 ≤ a.at_) <;> cases decide (a.at_ ≤ 2) <;> cases decide (0 ≤ a.to) <;> cases decide (a.to ≤ 2) <;> cases decide (a.sg.length = 1) <;> cases isName a.sg <;> rfl
    generalize hgood : ((decide (0 ≤ a.at_) && decide (a.at_ ≤ 2)) && ((decide (0 ≤ a.to) && decide (a.to ≤ 2)) && ((a.sg.length : Int) == 1))) = good at ear ⊢
    walk_at "w"
    refine brn_by (fun h => ?_) fun h => ?_
    · have h' : good = false := by
        have : (!good) = true := h
        simpa using this
      exact no (by rw [ear, h', Bool.false_and])
    · have h' : good = true := by
        have : (!good) = false := h
        simpa using this
      walk_at "w"
      refine ⟨a.sg, rfl, ?_⟩
      walk_at "w"
      refine brn_by (fun g => ?_) fun g => ?_
      · have g' : isName a.sg = false := by
          have : (!isName a.sg) = true := g
          simpa using this
        exact no (by rw [ear, g', Bool.and_false])
      · have g' : isName a.sg = true := by
          have : (!isName a.sg) = false := g
          simpa using this
        refine hK _ _ ⟨rfl, ⟨_, _, _, _, rfl⟩, fun k b hk hb => ?_⟩
        by_cases hki : k < i
        · exact ha k b hki hb
        · have : k = i := by omega
          subst this
          rw [hai] at hb
          cases hb
          rw [ear, h', g']; rfl
  · subst eM ee
    have hall : as.all arB = true := by
      rw [List.all_eq_true]
      intro a ham
      obtain ⟨k, hk⟩ := List.getElem?_of_mem ham
      refine ha k a ?_ hk
      rw [List.length_map]
      exact (List.getElem?_eq_some_iff.mp hk).1
    rw [hall, Bool.true_and] at q
    exact r_law_is_writer_1 nm as p c M' Q _ _ _ _ _ _ _ _ _ h9 q
theorem r_law_is_writer (ds : List D) (M : Mp) (Q : DK) (E : DX) (hl : ds.length = 1) (h : sp_law_is_writer ds M Q E) : t_law_is_writer { nx := fun _ M' => Q .non M', rt := Q } (startD ["_law_thing", "_law_keys", "_law_rising", "_law_place", "_law_sign", "_law_to", "_law_good", "_law_arrow", "_law_k"] ds) M := by
  obtain ⟨ts, rfl, h⟩ := h
  walk_at "w"
  refine ⟨⟨rfl, rfl⟩, ?_⟩
  walk_at "w"
  refine brn_by (fun g => ?_) fun g => ?_
  · rcases h with ⟨_, q⟩ | ⟨nm, as, p, c, rfl, _, _⟩
    · exact q
    · cases g
  · rcases h with ⟨hn, q⟩ | ⟨nm, as, p, c, rfl, h9, q⟩
    · have g' : (!((ts.length : Int) == 4)) = false := g
      have : (ts.length : Int) = 4 := by simpa using g'
      omega
    · unfold isWr at q
      walk_at "w"
      refine ⟨nm, rfl, ?_⟩
      walk_at "w"
      refine brn_by (fun h => ?_) fun h => ?_
      · have h' : isName nm = false := by
          have : (!isName nm) = true := h
          simpa using this
        rw [h', Bool.false_and] at q
        exact q
      · have h' : isName nm = true := by
          have : (!isName nm) = false := h
          simpa using this
        rw [h', Bool.true_and] at q
        walk_at "w"
        refine brn_by (fun g => ?_) fun g => ?_
        · have g' : decide (as.length ≤ 9) = false := by
            have := of_decide_eq_true g
            rw [List.length_map] at this
            exact decide_eq_false (by omega)
          rw [g', Bool.false_and] at q
          exact q
        · have g9 : as.length ≤ 9 := by
            have := of_decide_eq_false g
            rw [List.length_map] at this
            omega
          rw [decide_eq_true g9, Bool.true_and] at q
          exact r_law_is_writer_2 nm as p c M Q _ _ _ _ _ _ _ _ _ g9 q
end L3
set_option Elab.async false
set_option linter.all false
set_option maxRecDepth 100000
set_option maxHeartbeats 1000000
namespace L3
open PySem PySem.Spec PyProof.Rows L2 NS
local macro_rules | `(tactic| walk_at "w") => `(tactic| conv => whnf)
theorem beqS {a b : Str} : (a == b) = decide (a = b) := by
  by_cases c : a = b
  · subst c; simp
  · rw [decide_eq_false c]; exact beq_eq_false_iff_ne.mpr c
def optA : Option Ar → D
  | none => .non
  | some a => arD a
def optW : Option Wr → D
  | none => .non
  | some w => wrD w
def sp_arrow_in : SpD := fun ds M Q _ => ∃ x : Str, ds = [.str x] ∧ Q (optA (arPr x)) M
def sp_law_arrow_in : SpD := fun ds M Q _ => ∃ x : Str, ds = [.str x] ∧ Q (optA (arL x)) M
def t_arrow_in_1 : DS := (dRet (dTup (dCons (dUn rIntD (dBin rIxD (dVar 0) (dC (.int 0)))) (dCons (dBin rIxD (dVar 0) (dC (.int 1))) (dCons (dUn rIntD (dBin rIxD (dVar 0) (dC (.int 2)))) dNil)))))
def t_arrow_in : DS := (dSeq (dIfS (dOr (dTest (dBin (rEqDD not) (dUn rLenD (dVar 0)) (dC (.int 3)))) (dOr (dTest (dBin (rInDD not) (dBin rIxD (dVar 0) (dC (.int 0))) (dC (.str "0123")))) (dTest (dBin (rInDD not) (dBin rIxD (dVar 0) (dC (.int 2))) (dC (.str "0123")))))) (dRet (dC .non)) dNext)
    t_arrow_in_1)
def t_law_arrow_in_1 : DS := (dSeq (dSet 1 (dAndV (dBin (rInDD id) (dBin rIxD (dVar 0) (dC (.int 0))) (dC (.str "012"))) (dBin (rInDD id) (dBin rIxD (dVar 0) (dC (.int 2))) (dC (.str "012")))))
    (dRet (dIf (dTru (dVar 1)) (dTup (dCons (dUn rIntD (dBin rIxD (dVar 0) (dC (.int 0)))) (dCons (dBin rIxD (dVar 0) (dC (.int 1))) (dCons (dUn rIntD (dBin rIxD (dVar 0) (dC (.int 2)))) dNil)))) (dC .non))))
def t_law_arrow_in : DS := (dSeq (dIfS (dOr (dTest (dBin (rEqDD not) (dUn rLenD (dVar 0)) (dC (.int 3)))) (dNot (dTru (dCall sp_law_is_name (dCons (dBin rIxD (dVar 0) (dC (.int 1))) dNil))))) (dRet (dC .non)) dNext)
    t_law_arrow_in_1)
theorem ne3 {l : List Nat} (h : ∀ a b c, l ≠ [a, b, c]) : l.length ≠ 3 := fun e => by
  match l, e, h with
  | [a, b, c], _, h => exact h a b c rfl
theorem r_arrow_in (ds : List D) (M : Mp) (Q : DK) (E : DX) (hl : ds.length = 1) (h : sp_arrow_in ds M Q E) : t_arrow_in { nx := fun _ M' => Q .non M', rt := Q } (startD ["text"] ds) M := by
  obtain ⟨⟨⟨l⟩⟩, rfl, q⟩ := h
  walk_at "w"
  refine ⟨⟨rfl, rfl⟩, ?_⟩
  walk_at "w"
  have ee : eqD (resD M (.int ((⟨⟨l⟩⟩ : Str).length : Nat))) (resD M (.int 3)) = decide (l.length = 3) := by
    show eqD (.int (l.length : Nat)) (.int 3) = _
    rw [eqD_int, Bool.eq_iff_iff]
    simp
    omega
  rw [ee]
  by_cases c3 : ∃ a b c, l = [a, b, c]
  · obtain ⟨a, b, c, rfl⟩ := c3
    have ea : arPr ⟨⟨[a, b, c]⟩⟩ = if figB a = true ∧ figB c = true then some ⟨((a - 48 : Nat) : Int), ⟨#[b]⟩, ((c - 48 : Nat) : Int)⟩ else none := rfl
    rw [ea] at q
    walk_at "w"
    rw [show strIn ⟨#[a]⟩ (Str.ofString "0123") = figB a from strIn_figs a]
    cases ha : figB a with
    | false =>
      rw [if_neg (fun h => by rw [ha] at h; cases h.1)] at q
      exact q
    | true =>
      walk_at "w"
      rw [show strIn ⟨#[c]⟩ (Str.ofString "0123") = figB c from strIn_figs c]
      cases hc : figB c with
      | false =>
        rw [if_neg (fun h => by rw [hc] at h; cases h.2)] at q
        exact q
      | true =>
        rw [if_pos ⟨ha, hc⟩] at q
        walk_at "w"
        rw [fig_int ha]
        refine ⟨(show 1 ≤ 640 by decide), ?_⟩
        walk_at "w"
        rw [fig_int hc]
        refine ⟨(show 1 ≤ 640 by decide), ?_⟩
        exact q
  · have hn := ne3 fun a b c e => c3 ⟨a, b, c, e⟩
    rw [decide_eq_false hn]
    have ea : arPr ⟨⟨l⟩⟩ = none := by
      unfold arPr
      split
      · rename_i a b c e
        exact absurd ⟨a, b, c, e⟩ c3
      · rfl
    rw [ea] at q
    exact q
theorem r_law_arrow_in (ds : List D) (M : Mp) (Q : DK) (E : DX) (hl : ds.length = 1) (h : sp_law_arrow_in ds M Q E) : t_law_arrow_in { nx := fun _ M' => Q .non M', rt := Q } (startD ["_law_text", "_law_good"] ds) M := by
  obtain ⟨⟨⟨l⟩⟩, rfl, q⟩ := h
  walk_at "w"
  refine ⟨⟨rfl, rfl⟩, ?_⟩
  walk_at "w"
  have ee : eqD (resD M (.int ((⟨⟨l⟩⟩ : Str).length : Nat))) (resD M (.int 3)) = decide (l.length = 3) := by
    show eqD (.int (l.length : Nat)) (.int 3) = _
    rw [eqD_int, Bool.eq_iff_iff]
    simp
    omega
  rw [ee]
  by_cases c3 : ∃ a b c, l = [a, b, c]
  · obtain ⟨a, b, c, rfl⟩ := c3
    have ea : arL ⟨⟨[a, b, c]⟩⟩ = if isLetter b = true ∧ fig2 a = true ∧ fig2 c = true then some ⟨((a - 48 : Nat) : Int), ⟨#[b]⟩, ((c - 48 : Nat) : Int)⟩ else none := rfl
    rw [ea] at q
    walk_at "w"
    refine ⟨⟨#[b]⟩, rfl, ?_⟩
    rw [show isName ⟨#[b]⟩ = isLetter b by rw [← isSign_one]; unfold isSign; rw [show decide ((⟨#[b]⟩ : Str).length = 1) = true from rfl, Bool.and_true]]
    walk_at "w"
    cases hb : isLetter b with
    | false =>
      rw [if_neg (fun h => by rw [hb] at h; cases h.1)] at q
      exact q
    | true =>
      walk_at "w"
      rw [show strIn ⟨#[a]⟩ (Str.ofString "012") = fig2 a from strIn_fig2 a]
      cases ha : fig2 a with
      | false =>
        rw [if_neg (fun h => by rw [ha] at h; cases h.2.1)] at q
        exact q
      | true =>
        walk_at "w"
        rw [show strIn ⟨#[c]⟩ (Str.ofString "012") = fig2 c from strIn_fig2 c]
        cases hc : fig2 c with
        | false =>
          rw [if_neg (fun h => by rw [hc] at h; cases h.2.2)] at q
          exact q
        | true =>
          rw [if_pos ⟨hb, ha, hc⟩] at q
          walk_at "w"
          rw [fig_int (fig_of ha)]
          refine ⟨(show 1 ≤ 640 by decide), ?_⟩
          walk_at "w"
          rw [fig_int (fig_of hc)]
          refine ⟨(show 1 ≤ 640 by decide), ?_⟩
          exact q
  · have hn := ne3 fun a b c e => c3 ⟨a, b, c, e⟩
    rw [decide_eq_false hn]
    have ea : arL ⟨⟨l⟩⟩ = none := by
      unfold arL
      split
      · rename_i a b c e
        exact absurd ⟨a, b, c, e⟩ c3
      · rfl
    rw [ea] at q
    exact q
def sp_writer_in : SpD := fun ds M Q _ => ∃ x : Str, ds = [.str x] ∧ SOk x ∧ x.length ≤ 500 ∧ Q (optW (wrP (Txt.split x "/"))) M
def sp_law_writer_in : SpD := fun ds M Q _ => ∃ x : Str, ds = [.str x] ∧ SOk x ∧ x.length ≤ 500 ∧ Q (optW (wrL (Txt.split x "/"))) M
def t_writer_in_1 : DS := (dSeq (dSet 3 (dTup (dCons (dVar 4) (dCons (dUn rTupleD (dVar 2)) (dCons (dUn rIntD (dVar 6)) (dCons (dUn rIntD (dVar 7)) dNil))))))
    (dRet (dIf (dTru (dCall sp_is_writer (dCons (dVar 3) dNil))) (dVar 3) (dC .non))))
def t_writer_in_2 : DS := (dSeq (dAsgL (dVar 1) [(.name 4), (.name 5), (.name 6), (.name 7)])
    (dSeq (dSet 2 (dIf (dTest (dBin (rEqDD id) (dVar 5) (dC (.str "-")))) (dLst dNil) (dLc (iLst (dSplit (dVar 5) (dC (.str ";")))) (.name 8) dYes (dCall sp_arrow_in (dCons (dVar 8) dNil)) [8])))
    (dSeq (dIfS (dOr (dTest (dBin (rInDD id) (dC .non) (dVar 2))) (dOr (dTest (dBin (rInDD not) (dVar 6) (dC (.str "0123")))) (dTest (dBin (rInDD not) (dVar 7) (dC (.str "0123")))))) (dRet (dC .non)) dNext)
    t_writer_in_1)))
def t_writer_in : DS := (dSeq (dSet 1 (dSplit (dVar 0) (dC (.str "/"))))
    (dSeq (dIfS (dOr (dTest (dBin (rEqDD not) (dUn rLenD (dVar 1)) (dC (.int 4)))) (dOr (dTest (dBin (rEqDD not) (dUn rLenD (dBin rIxD (dVar 1) (dC (.int 2)))) (dC (.int 1)))) (dTest (dBin (rEqDD not) (dUn rLenD (dBin rIxD (dVar 1) (dC (.int 3)))) (dC (.int 1)))))) (dRet (dC .non)) dNext)
    t_writer_in_2))
def t_law_writer_in_1 : DS := (dSeq (dSet 3 (dTup (dCons (dBin rIxD (dVar 1) (dC (.int 0))) (dCons (dUn rTupleD (dVar 2)) (dCons (dUn rIntD (dBin rIxD (dVar 1) (dC (.int 2)))) (dCons (dUn rIntD (dBin rIxD (dVar 1) (dC (.int 3)))) dNil))))))
    (dRet (dIf (dTru (dCall sp_law_is_writer (dCons (dVar 3) dNil))) (dVar 3) (dC .non))))
def t_law_writer_in_2 : DS := (dSeq (dSet 2 (dIf (dTest (dBin (rEqDD id) (dBin rIxD (dVar 1) (dC (.int 1))) (dC (.str "-")))) (dLst dNil) (dLc (iLst (dSplit (dBin rIxD (dVar 1) (dC (.int 1))) (dC (.str ";")))) (.name 4) dYes (dCall sp_law_arrow_in (dCons (dVar 4) dNil)) [4])))
    (dSeq (dIfS (dTest (dBin (rInDD id) (dC .non) (dVar 2))) (dRet (dC .non)) dNext)
    t_law_writer_in_1))
def t_law_writer_in : DS := (dSeq (dSet 1 (dSplit (dVar 0) (dC (.str "/"))))
    (dSeq (dIfS (dOr (dTest (dBin (rEqDD not) (dUn rLenD (dVar 1)) (dC (.int 4)))) (dNot (dTru (dUn rAllD (dLc (iLst (dSl (dVar 1) (dPart (dC (.int 2))) dNoPart)) (.name 5) dYes (dBin (rInDD id) (dVar 5) (dTup (dCons (dC (.str "0")) (dCons (dC (.str "1")) (dCons (dC (.str "2")) (dCons (dC (.str "3")) dNil)))))) [5]))))) (dRet (dC .non)) dNext)
    t_law_writer_in_2))
theorem eqD_len {M : Mp} {n k : Nat} : eqD (resD M (.int (n : Nat))) (resD M (.int (k : Nat))) = decide (n = k) := by
  show eqD (.int (n : Nat)) (.int (k : Nat)) = _
  rw [eqD_int, Bool.eq_iff_iff]
  simp
  omega
theorem none_in (xs : List (Option Ar)) : ((xs.map optA).any fun z => eqD z .non) = decide (allS xs = none) := by
  induction xs with
  | nil => rfl
  | cons x xs ih =>
    rw [List.map_cons, List.any_cons, ih]
    cases x with
    | none => rfl
    | some a =>
      rw [show eqD (optA (some a)) .non = false from rfl, Bool.false_or]
      exact decide_eq_decide.mpr (show _ ↔ (allS xs).map _ = none by rw [Option.map_eq_none_iff])
theorem all_some : ∀ {xs : List (Option Ar)} {as : List Ar}, allS xs = some as → xs.map optA = as.map arD ∧ as.length = xs.length
  | [], _, h => by cases h; exact ⟨rfl, rfl⟩
  | none :: xs, _, h => by cases h
  | some a :: xs, _, h => by
    obtain ⟨l, h1, rfl⟩ := Option.map_eq_some_iff.mp (show (allS xs).map _ = some _ from h)
    obtain ⟨e1, e2⟩ := all_some h1
    exact ⟨by rw [List.map_cons, List.map_cons, e1]; rfl, by rw [List.length_cons, List.length_cons, e2]⟩
theorem opts_le (xs : List (Option Ar)) : D.les 58 (xs.map optA) = true := les_of fun d hd => by
  obtain ⟨x, _, rfl⟩ := List.mem_map.mp hd
  cases x <;> rfl
theorem eq_dash {M : Mp} {x : Str} : eqD (resD M (.str x)) (resD M (.str "-")) = decide (x = "-") := by
  show eqD (.str x) (.str "-") = _
  rw [eqD_str, beqS]
/-- the rows read -/
theorem rows_walk {f : Str → Option Ar} {e0 : DE} {rows : Str} {env : DEnv} {M : Mp} {i : Nat} {Q : List D → Mp → Prop} (h : ∀ x ∈ Txt.split rows ";", ∀ (K1 : DK) (K2 : Mp → Prop), K1 (optA (f x)) M → Tg.bind (.name i) (.str x) env fun env1 => dYes env1 M fun b M1 => brn b (e0 env1 M1 K1) (K2 M1))
    (q : Q (((Txt.split rows ";").map f).map optA) M) : dLcL (.name i) dYes e0 env ((Txt.split rows ";").map D.str) [] M Q := by
  refine lc_map (fun d => match d with
    | .str x => optA (f x)
    | _ => .non) (fun d hd K1 K2 h1 => ?_) ?_
  · obtain ⟨x, hx, rfl⟩ := List.mem_map.mp hd
    exact h x hx K1 K2 h1
  · rw [List.map_map] at q ⊢
    exact q
theorem r_writer_in_1 (nm : Str) (as : List Ar) (a b : Nat) (ha : figB a = true) (hb : figB b = true) (hl : as.length ≤ 1000) (M : Mp) (Q : DK) (nx : DEnv → Mp → Prop) (e0 e1 e3 e5 e8 : Option D) (q : Q (optW (endP nm as ((a - 48 : Nat) : Int) ((b - 48 : Nat) : Int))) M) :
    t_writer_in_1 { nx := nx, rt := Q } [e0, e1, some (.lst (as.map arD)), e3, some (.str nm), e5, some (sgn a), some (sgn b), e8] M := by
  walk_at "w"
  rw [show PySem.intText? (⟨#[a]⟩ : Str) = _ from fig_int ha]
  refine ⟨(show 1 ≤ 640 by decide), ?_⟩
  walk_at "w"
  rw [show PySem.intText? (⟨#[b]⟩ : Str) = _ from fig_int hb]
  refine ⟨(show 1 ≤ 640 by decide), ?_⟩
  walk_at "w"
  refine ⟨_, rfl, .inr ⟨nm, as, _, _, rfl, hl, ?_⟩⟩
  unfold endP at q
  walk_at "w"
  cases c : isWr nm as ((a - 48 : Nat) : Int) ((b - 48 : Nat) : Int) with
  | true => rw [if_pos c] at q; exact q
  | false => rw [if_neg (by rw [c]; decide)] at q; exact q
theorem r_law_writer_in_1 (ps : List Str) (nm rows : Str) (as : List Ar) (a b : Nat) (hps : ps = [nm, rows, ⟨#[a]⟩, ⟨#[b]⟩]) (ha : figB a = true) (hb : figB b = true) (hl : as.length ≤ 1000) (M : Mp) (Q : DK) (nx : DEnv → Mp → Prop) (e0 e3 e4 e5 : Option D) (q : Q (optW (endP nm as ((a - 48 : Nat) : Int) ((b - 48 : Nat) : Int))) M) :
    t_law_writer_in_1 { nx := nx, rt := Q } [e0, some (.lst (ps.map D.str)), some (.lst (as.map arD)), e3, e4, e5] M := by
  subst hps
  walk_at "w"
  rw [show PySem.intText? (⟨#[a]⟩ : Str) = _ from fig_int ha]
  refine ⟨(show 1 ≤ 640 by decide), ?_⟩
  walk_at "w"
  rw [show PySem.intText? (⟨#[b]⟩ : Str) = _ from fig_int hb]
  refine ⟨(show 1 ≤ 640 by decide), ?_⟩
  walk_at "w"
  refine ⟨_, rfl, .inr ⟨nm, as, _, _, rfl, hl, ?_⟩⟩
  unfold endP at q
  walk_at "w"
  cases c : isWr nm as ((a - 48 : Nat) : Int) ((b - 48 : Nat) : Int) with
  | true => rw [if_pos c] at q; exact q
  | false => rw [if_neg (by rw [c]; decide)] at q; exact q
theorem ne4 {ps : List Str} (h : ∀ a b c d, ps ≠ [a, b, c, d]) : ps.length ≠ 4 := fun e => by
  match ps, e, h with
  | [a, b, c, d], _, h => exact h a b c d rfl
theorem wrP_ne4 {ps : List Str} (h : ∀ a b c d, ps ≠ [a, b, c, d]) : wrP ps = none := by
  unfold wrP
  split
  · rename_i a b c d
    exact absurd rfl (h a b c d)
  · rfl
theorem wrL_ne4 {ps : List Str} (h : ∀ a b c d, ps ≠ [a, b, c, d]) : wrL ps = none := by rw [← wr_same]; exact wrP_ne4 h
/-- from the parts on -/
theorem r_writer_in_2 (nm rows pt cp : Str) (hr : SOk rows) (hrl : rows.length ≤ 500) (h1 : pt.length = 1) (h2 : cp.length = 1) (M : Mp) (Q : DK) (nx : DEnv → Mp → Prop) (e0 e2 e3 e4 e5 e6 e7 e8 : Option D) (q : Q (optW (wrP [nm, rows, pt, cp])) M) :
    t_writer_in_2 { nx := nx, rt := Q } [e0, some (.lst ([nm, rows, pt, cp].map D.str)), e2, e3, e4, e5, e6, e7, e8] M := by
  obtain ⟨⟨pl⟩⟩ := pt
  obtain ⟨⟨cl⟩⟩ := cp
  obtain ⟨a, rfl⟩ : ∃ a, pl = [a] := by
    match pl, h1 with
    | [a], _ => exact ⟨a, rfl⟩
  obtain ⟨b, rfl⟩ : ∃ b, cl = [b] := by
    match cl, h2 with
    | [b], _ => exact ⟨b, rfl⟩
  have eq : wrP [nm, rows, ⟨⟨[a]⟩⟩, ⟨⟨[b]⟩⟩] = (match allS (rowsP rows) with
      | some as => if figB a = true ∧ figB b = true then endP nm as ((a - 48 : Nat) : Int) ((b - 48 : Nat) : Int) else none
      | none => none) := rfl
  rw [eq] at q
  have after : ∀ e8, (dSeq (dIfS (dOr (dTest (dBin (rInDD id) (dC .non) (dVar 2))) (dOr (dTest (dBin (rInDD not) (dVar 6) (dC (.str "0123")))) (dTest (dBin (rInDD not) (dVar 7) (dC (.str "0123")))))) (dRet (dC .non)) dNext) t_writer_in_1) { nx := nx, rt := Q } [e0, some (.lst ([nm, rows, ⟨⟨[a]⟩⟩, ⟨⟨[b]⟩⟩].map D.str)), some (.lst ((rowsP rows).map optA)), e3, some (.str nm), some (.str rows), some (sgn a), some (sgn b), e8] M := fun e8 => by
    walk_at "w"
    refine ⟨⟨rfl, opts_le _⟩, ?_⟩
    have en := none_in (rowsP rows)
    walk_at "w"
    rw [en]
    cases hr : allS (rowsP rows) with
    | none =>
      rw [hr] at q
      rw [decide_eq_true rfl]
      exact q
    | some as =>
      rw [hr] at q
      rw [decide_eq_false (by simp)]
      have q : Q (optW (if figB a = true ∧ figB b = true then endP nm as ((a - 48 : Nat) : Int) ((b - 48 : Nat) : Int) else none)) M := q
      obtain ⟨e1, e2⟩ := all_some hr
      have hal : as.length ≤ 1000 := by
        rw [e2]
        unfold rowsP
        split
        · simp
        · rw [List.length_map]
          have := (split_parts (x := rows) (sep := ";")).1
          omega
      walk_at "w"
      rw [show strIn ⟨#[a]⟩ (Str.ofString "0123") = figB a from strIn_figs a]
      cases ha : figB a with
      | false =>
        rw [if_neg (fun h => by rw [ha] at h; cases h.1)] at q
        exact q
      | true =>
        walk_at "w"
        rw [show strIn ⟨#[b]⟩ (Str.ofString "0123") = figB b from strIn_figs b]
        cases hb : figB b with
        | false =>
          rw [if_neg (fun h => by rw [hb] at h; cases h.2)] at q
          exact q
        | true =>
          rw [if_pos ⟨ha, hb⟩] at q
          rw [e1]
          exact r_writer_in_1 nm as a b ha hb hal M Q nx _ _ _ _ _ q
  walk_at "w"
  refine ⟨⟨rfl, rfl⟩, ?_⟩
  rw [eq_dash]
  by_cases hd : rows = "-"
  · rw [decide_eq_true hd]
    walk_at "w"
    have e : rowsP rows = [] := by unfold rowsP; rw [if_pos hd]
    have := after e8
    rw [e] at this
    exact this
  · rw [decide_eq_false hd]
    walk_at "w"
    refine ⟨by decide +kernel, by rw [sizeLine_eq]; omega, parts_sok hr, ?_⟩
    walk_at "w"
    have e : rowsP rows = (Txt.split rows ";").map arPr := by unfold rowsP; rw [if_neg hd]
    refine rows_walk (f := arPr) (fun x _ K1 K2 h1 => ?_) ?_
    · walk_at "w"
      exact ⟨x, rfl, h1⟩
    · rw [← e]
      exact after _
theorem wrP_len {ps : List Str} {nm rows pt cp : Str} (hp : ps = [nm, rows, pt, cp]) (h : pt.length ≠ 1 ∨ cp.length ≠ 1) : wrP ps = none := by
  subst hp
  obtain ⟨⟨pl⟩⟩ := pt
  obtain ⟨⟨cl⟩⟩ := cp
  show (match pl, cl with
    | [a], [b] => _
    | _, _ => none) = none
  split
  · rcases h with h | h <;> exact absurd rfl h
  · rfl
theorem r_writer_in (ds : List D) (M : Mp) (Q : DK) (E : DX) (hl : ds.length = 1) (h : sp_writer_in ds M Q E) : t_writer_in { nx := fun _ M' => Q .non M', rt := Q } (startD ["text", "parts", "arrows", "writer", "name", "rows", "patience", "cap", "row"] ds) M := by
  obtain ⟨x, rfl, ok, hx, q⟩ := h
  have hps := parts_sok (sep := "/") ok
  have hpl := split_parts (x := x) (sep := "/")
  walk_at "w"
  refine ⟨by decide +kernel, by rw [sizeLine_eq]; omega, hps, ?_⟩
  generalize Txt.split x "/" = ps at q hps hpl
  walk_at "w"
  rw [List.length_map]
  refine ⟨⟨rfl, rfl⟩, ?_⟩
  have e4 : eqD (resD M (.int (ps.length : Nat))) (resD M (.int 4)) = decide (ps.length = 4) := eqD_len (k := 4)
  walk_at "w"
  rw [e4]
  by_cases c4 : ∃ a b c d, ps = [a, b, c, d]
  · obtain ⟨nm, rows, pt, cp, rfl⟩ := c4
    walk_at "w"
    refine ⟨⟨rfl, rfl⟩, ?_⟩
    have e1 : eqD (resD M (.int (pt.length : Nat))) (resD M (.int 1)) = decide (pt.length = 1) := eqD_len (k := 1)
    walk_at "w"
    rw [e1]
    by_cases h1 : pt.length = 1
    · rw [decide_eq_true h1]
      walk_at "w"
      refine ⟨⟨rfl, rfl⟩, ?_⟩
      have e2 : eqD (resD M (.int (cp.length : Nat))) (resD M (.int 1)) = decide (cp.length = 1) := eqD_len (k := 1)
      walk_at "w"
      rw [e2]
      by_cases h2 : cp.length = 1
      · rw [decide_eq_true h2]
        have hrows := hpl.2 rows (by simp)
        exact r_writer_in_2 nm rows pt cp (hps rows (by simp)) (by omega) h1 h2 M Q _ _ _ _ _ _ _ _ _ q
      · rw [decide_eq_false h2]
        rw [wrP_len rfl (.inr h2)] at q
        exact q
    · rw [decide_eq_false h1]
      rw [wrP_len rfl (.inl h1)] at q
      exact q
  · have hn := ne4 fun a b c d e => c4 ⟨a, b, c, d, e⟩
    rw [decide_eq_false hn]
    rw [wrP_ne4 fun a b c d e => c4 ⟨a, b, c, d, e⟩] at q
    exact q
def isOne (x : Str) : Bool := match x.cps.toList with
  | [a] => figB a
  | _ => false
theorem one_any (x : Str) : (([.str "0", .str "1", .str "2", .str "3"] : List D).any fun z => eqD z (.str x)) = isOne x := by
  obtain ⟨⟨l⟩⟩ := x
  have e : ∀ c : Nat, eqD (.str ⟨#[c]⟩) (.str ⟨⟨l⟩⟩) = decide (l = [c]) := fun c => by
    show ((⟨#[c]⟩ : Str) == ⟨⟨l⟩⟩) = _
    rw [beqS]
    refine decide_eq_decide.mpr ⟨fun h => ?_, fun h => by rw [h]⟩
    have := congrArg (fun s : Str => s.cps.toList) h
    exact this.symm
  show (eqD (.str ⟨#[48]⟩) _ || (eqD (.str ⟨#[49]⟩) _ || (eqD (.str ⟨#[50]⟩) _ || (eqD (.str ⟨#[51]⟩) _ || false)))) = _
  rw [e, e, e, e]
  unfold isOne
  match l with
  | [] => rfl
  | [a] =>
    show _ = figB a
    unfold figB
    rw [Bool.eq_iff_iff]
    simp
    omega
  | a :: b :: r => simp
theorem wrL_parts {nm rows pt cp : Str} : wrL [nm, rows, pt, cp] = if isOne pt = true ∧ isOne cp = true then (match allS (rowsL rows) with
      | some as => endP nm as (((pt.cps.toList.headD 0) - 48 : Nat) : Int) (((cp.cps.toList.headD 0) - 48 : Nat) : Int)
      | none => none) else none := by
  obtain ⟨⟨pl⟩⟩ := pt
  obtain ⟨⟨cl⟩⟩ := cp
  have e1 : wrL [nm, rows, ⟨⟨pl⟩⟩, ⟨⟨cl⟩⟩] = (match pl, cl with
    | [a], [b] => if figB a = true ∧ figB b = true then (match allS (rowsL rows) with
      | some as => endP nm as ((a - 48 : Nat) : Int) ((b - 48 : Nat) : Int)
      | none => none) else none
    | _, _ => none) := rfl
  rw [e1]
  match pl, cl with
  | [], _ => simp [isOne]
  | a :: b :: r, _ => simp [isOne]
  | [a], [] => simp [isOne]
  | [a], [b] => rfl
  | [a], b :: c :: r => simp [isOne]
theorem r_law_writer_in (ds : List D) (M : Mp) (Q : DK) (E : DX) (hl : ds.length = 1) (h : sp_law_writer_in ds M Q E) : t_law_writer_in { nx := fun _ M' => Q .non M', rt := Q } (startD ["_law_text", "_law_parts", "_law_rows", "_law_writer_here", "_law_row", "_law_part"] ds) M := by
  obtain ⟨x, rfl, ok, hx, q⟩ := h
  have hps := parts_sok (sep := "/") ok
  have hpl := split_parts (x := x) (sep := "/")
  walk_at "w"
  refine ⟨by decide +kernel, by rw [sizeLine_eq]; omega, hps, ?_⟩
  generalize Txt.split x "/" = ps at q hps hpl
  walk_at "w"
  rw [List.length_map]
  refine ⟨⟨rfl, rfl⟩, ?_⟩
  have e4 : eqD (resD M (.int (ps.length : Nat))) (resD M (.int 4)) = decide (ps.length = 4) := eqD_len (k := 4)
  walk_at "w"
  rw [e4]
  by_cases c4 : ∃ a b c d, ps = [a, b, c, d]
  · obtain ⟨nm, rows, pt, cp, rfl⟩ := c4
    rw [wrL_parts] at q
    walk_at "w"
    have hcut : cut ([nm, rows, pt, cp].map D.str) (some 2) none = [.str pt, .str cp] := rfl
    refine lc_map (fun d => match d with
      | .str y => .bl (isOne y)
      | _ => .non) (fun d hd K1 K2 h1 => ?_) ?_
    · have hd : d ∈ [D.str pt, D.str cp] := hd
      obtain ⟨y, rfl⟩ : ∃ y, d = .str y := by
        simp only [List.mem_cons, List.not_mem_nil, or_false] at hd
        rcases hd with rfl | rfl <;> exact ⟨_, rfl⟩
      walk_at "w"
      refine ⟨⟨rfl, rfl⟩, ?_⟩
      rw [one_any y]
      exact h1
    · rw [show cut (List.map D.str [nm, rows, pt, cp]) (some 2) none = [.str pt, .str cp] from rfl]
      walk_at "w"
      have after : ∀ (e4 e5 : Option D), isOne pt = true → isOne cp = true → (dSeq (dIfS (dTest (dBin (rInDD id) (dC .non) (dVar 2))) (dRet (dC .non)) dNext) t_law_writer_in_1) { nx := fun _ M' => Q .non M', rt := Q } [some (.str x), some (.lst ([nm, rows, pt, cp].map D.str)), some (.lst ((rowsL rows).map optA)), none, e4, e5] M := fun e4 e5 h1 h2 => by
        rw [if_pos ⟨h1, h2⟩] at q
        obtain ⟨⟨pl⟩⟩ := pt
        obtain ⟨⟨cl⟩⟩ := cp
        obtain ⟨a, rfl⟩ : ∃ a, pl = [a] := by
          match pl, h1 with
          | [a], _ => exact ⟨a, rfl⟩
        obtain ⟨b, rfl⟩ : ∃ b, cl = [b] := by
          match cl, h2 with
          | [b], _ => exact ⟨b, rfl⟩
        walk_at "w"
        refine ⟨⟨rfl, opts_le _⟩, ?_⟩
        have en := none_in (rowsL rows)
        walk_at "w"
        rw [en]
        cases hr : allS (rowsL rows) with
        | none =>
          rw [hr] at q
          rw [decide_eq_true rfl]
          exact q
        | some as =>
          rw [hr] at q
          rw [decide_eq_false (by simp)]
          obtain ⟨e1, e2⟩ := all_some hr
          have hrl := hpl.2 rows (by simp)
          have hal : as.length ≤ 1000 := by
            rw [e2]
            unfold rowsL
            split
            · simp
            · rw [List.length_map]
              have := (split_parts (x := rows) (sep := ";")).1
              omega
          walk_at "w"
          rw [e1]
          exact r_law_writer_in_1 _ nm rows as a b rfl h1 h2 hal M Q _ _ _ _ _ q
      have go : isOne pt = true → isOne cp = true → t_law_writer_in_2 { nx := fun _ M' => Q .non M', rt := Q } [some (.str x), some (.lst ([nm, rows, pt, cp].map D.str)), none, none, none, none] M := fun h1 h2 => by
        walk_at "w"
        refine ⟨⟨rfl, rfl⟩, ?_⟩
        rw [show eqD (resD M (.str rows)) (resD M (.str "-")) = decide (rows = "-") from eq_dash]
        by_cases hd : rows = "-"
        · rw [decide_eq_true hd]
          walk_at "w"
          have e : rowsL rows = [] := by unfold rowsL; rw [if_pos hd]
          have := after none none h1 h2
          rw [e] at this
          exact this
        · rw [decide_eq_false hd]
          have hrl := hpl.2 rows (by simp)
          walk_at "w"
          refine ⟨by decide +kernel, by rw [sizeLine_eq]; omega, parts_sok (hps rows (by simp)), ?_⟩
          walk_at "w"
          have e : rowsL rows = (Txt.split rows ";").map arL := by unfold rowsL; rw [if_neg hd]
          refine rows_walk (f := arL) (fun x _ K1 K2 h1 => ?_) ?_
          · walk_at "w"
            exact ⟨x, rfl, h1⟩
          · rw [← e]
            exact after _ _ h1 h2
      cases h1 : isOne pt with
      | false =>
        rw [if_neg (fun h => by rw [h1] at h; cases h.1)] at q
        exact q
      | true =>
        cases h2 : isOne cp with
        | false =>
          rw [if_neg (fun h => by rw [h2] at h; cases h.2)] at q
          exact q
        | true => exact go h1 h2
  · have hn := ne4 fun a b c d e => c4 ⟨a, b, c, d, e⟩
    rw [decide_eq_false hn]
    rw [wrL_ne4 fun a b c d e => c4 ⟨a, b, c, d, e⟩] at q
    exact q
end L3
set_option Elab.async false
set_option linter.all false
set_option maxRecDepth 100000
set_option maxHeartbeats 1000000
namespace L3
open PySem PySem.Spec PyProof.Rows L2
section
variable {prog : Program} {w : World} {A : Around} {E : Value → Shared → Prop} {s : Shared}
theorem star_list {l : Addr} {x : Value} {its : List Value} {Q : List Value → Shared → Prop} (hl : s.heap.IsList l (x :: its).toArray) (hh : A.handled = none) (hz : (x :: its).length ≤ sizeLine)
    (h : ∀ (h' : Heap) (tk : Nat), (∀ b o, s.heap.get? b = some o → h'.get? b = some o) → Q [x, .ref h'.objs.size] { s with heap := h'.push (seqObj "list" its.toArray 0), toks := tk }) : wpAny (model prog w) A (unpackItems (.ref l) 2 (some 1)) Q E s := by
  have hlt : l ≠ s.heap.objs.size := by obtain ⟨o, ho, _⟩ := hl; exact Nat.ne_of_lt (Heap.lt_size ho)
  unfold unpackItems
  refine wpAny_bind ?_
  unfold notIterableAtAll
  refine wpAny_bind (wpAny_specialOf hl.typeIs PySem.F.slot_list_iter.lookup ?_)
  refine wpAny_pure ?_
  simp only [Bool.false_eq_true, if_false]
  refine wpAny_bind (wpAny_holding (wpAny_pyIter_list hl ?_))
  refine wpAny_bind (wpAny_holding (PySem.W.kun_draw hlt 1 0 _ _ ⟨_, Heap.get?_push_size _ rfl, rfl, rfl⟩ (hl.push _) (by simp) fun h₁ hit₁ hs₁ => ?_))
  have hl₁ : h₁.IsList l (x :: its).toArray := (hl.push _).extBut hs₁.extBut hlt
  rw [Nat.zero_add] at hit₁
  have hit₁' := hit₁
  obtain ⟨oi, hoi, _⟩ := hit₁'
  have hl₁' := hl₁
  obtain ⟨ol, hol, _⟩ := hl₁'
  rw [List.drop_zero]
  have hf : (x :: its).toArray.toList.take 1 = [x] := by simp
  rw [hf]
  rw [if_neg (show ¬ ([x].length < 1) from Nat.lt_irrefl 1)]
  refine wpAny_bind (wpAny_holding (PySem.W.kun_collect (s := { s with heap := h₁ }) (T := "list_iterator") (.inr (.inr (.inl rfl))) (Walks.list (A := A.in1) hh s.heap.objs.size l hlt (x :: its).toArray) (fun j u st => st.1.typeIs) (k := 1) (by simp) ⟨hit₁, hl₁⟩ (Heap.lt_size hoi) (Heap.lt_size hol) (fun h₂ tk hk => ?_) (by simpa using hz)))
  have hr : (x :: its).toArray.toList.drop 1 = its := by simp
  rw [hr]
  show wpAny _ _ (if its.length < 2 - 1 - 1 then _ else _) _ _ _
  rw [if_neg (by omega)]
  show wpAny _ _ (newList (its.take (its.length - 0)) >>= fun d => pure ([x] ++ [d] ++ its.drop (its.length - 0))) _ _ _
  rw [Nat.sub_zero, List.take_length, List.drop_length]
  refine wpAny_bind (wpAny_newList (wpAny_pure ?_) (by simp only [List.length_cons] at hz; omega))
  exact h h₂ tk fun b o e => hk b o (Nat.ne_of_lt (Heap.lt_size e)) (hs₁.extBut b o (Nat.ne_of_lt (Heap.lt_size e)) (Heap.get?_push_of_some _ e))
theorem star_tuple {l : Addr} {x : Value} {its : List Value} {Q : List Value → Shared → Prop} (hl : IsTup s.heap l (x :: its).toArray) (hh : A.handled = none) (hz : (x :: its).length ≤ sizeLine)
    (h : ∀ (h' : Heap) (tk : Nat), (∀ b o, s.heap.get? b = some o → h'.get? b = some o) → Q [x, .ref h'.objs.size] { s with heap := h'.push (seqObj "list" its.toArray 0), toks := tk }) : wpAny (model prog w) A (unpackItems (.ref l) 2 (some 1)) Q E s := by
  have hlt : l ≠ s.heap.objs.size := by obtain ⟨o, ho, _⟩ := hl; exact Nat.ne_of_lt (Heap.lt_size ho)
  unfold unpackItems
  refine wpAny_bind ?_
  unfold notIterableAtAll
  refine wpAny_bind (wpAny_specialOf hl.typeIs PyProof.Rows.slot_tuple_iter.lookup ?_)
  refine wpAny_pure ?_
  simp only [Bool.false_eq_true, if_false]
  refine wpAny_bind (wpAny_holding (PyProof.Rows.iter_tuple hl ?_))
  refine wpAny_bind (wpAny_holding (PyProof.Rows.draw_tuple hlt 1 0 _ _ ⟨_, Heap.get?_push_size _ rfl, rfl, rfl⟩ (hl.push _) (by simp) fun h₁ hit₁ hs₁ => ?_))
  have hl₁ : IsTup h₁ l (x :: its).toArray := (hl.push _).extBut hs₁.extBut hlt
  rw [Nat.zero_add] at hit₁
  have hit₁' := hit₁
  obtain ⟨oi, hoi, _⟩ := hit₁'
  have hl₁' := hl₁
  obtain ⟨ol, hol, _⟩ := hl₁'
  rw [List.drop_zero]
  have hf : (x :: its).toArray.toList.take 1 = [x] := by simp
  rw [hf]
  rw [if_neg (show ¬ ([x].length < 1) from Nat.lt_irrefl 1)]
  refine wpAny_bind (wpAny_holding (PySem.W.kun_collect (s := { s with heap := h₁ }) (T := "tuple_iterator") (.inr (.inr (.inr rfl))) (Walks.tuple (A := A.in1) hh s.heap.objs.size l hlt (x :: its).toArray) (fun j u st => st.1.typeIs) (k := 1) (by simp) ⟨hit₁, hl₁⟩ (Heap.lt_size hoi) (Heap.lt_size hol) (fun h₂ tk hk => ?_) (by simpa using hz)))
  have hr : (x :: its).toArray.toList.drop 1 = its := by simp
  rw [hr]
  show wpAny _ _ (if its.length < 2 - 1 - 1 then _ else _) _ _ _
  rw [if_neg (by omega)]
  show wpAny _ _ (newList (its.take (its.length - 0)) >>= fun d => pure ([x] ++ [d] ++ its.drop (its.length - 0))) _ _ _
  rw [Nat.sub_zero, List.take_length, List.drop_length]
  refine wpAny_bind (wpAny_newList (wpAny_pure ?_) (by simp only [List.length_cons] at hz; omega))
  exact h h₂ tk fun b o e => hk b o (Nat.ne_of_lt (Heap.lt_size e)) (hs₁.extBut b o (Nat.ne_of_lt (Heap.lt_size e)) (Heap.get?_push_of_some _ e))
end
section
variable {X : Cx} {e ea eb : Expr} {p2 pos tpos : Pos} {k : Nat}
def gStar2 (K : PySem.W.Frag) (t : TGs) : TG := fun v σ H Q => ∃ a x xs, v = .ref a ∧ (SqL K H a (x :: xs) ∨ SqT K H a (x :: xs)) ∧ ∀ p, H p = none → t [x, .ref p] σ (upd H p (.lst xs)) Q
theorem pg_star2 {t : TGs} (hc : X.calm = true) (h : PGs X [ea, eb] t) (he : (assignEach [ea, .Starred eb p2] X.env).map (·.2) = (assignEach [ea, eb] X.env).map (·.2) := by rfl)
    (hn : (assignEach [ea, .Starred eb p2] X.env).length = 2 := by rfl) (hst : (assignEach [ea, .Starred eb p2] X.env).findIdx? (·.1) = some 1 := by rfl) : PG X (.Tuple [ea, .Starred eb p2] k tpos) (gStar2 X.K t) := by
  refine ⟨fun pins s σ H v u Q I r ⟨a, x, xs, e1, hq, hw⟩ => ?_⟩
  subst e1
  cases r
  have fin : ∀ (u1 : Value) (us : List Value) (h' : Heap) (tk : Nat), RelV x u1 → Vals xs us → xs.length ≤ sizeLine → (∀ b o, s.heap.get? b = some o → h'.get? b = some o) →
      wpAny (model X.prog X.w) X.A (assignInOrder ((assignEach [ea, .Starred eb p2] X.env).map (·.2)) [u1, .ref h'.objs.size]) (fun _ s' => ∃ σ' H', Inv X pins σ' H' s' ∧ Q σ' H') X.xe { s with heap := h'.push (seqObj "list" us.toArray 0), toks := tk } := fun u1 us h' tk r1 rs hz kk => by
    have I1 : Inv X pins σ H { s with heap := h', toks := tk } := I.kept kk
    have hn' : H h'.objs.size = none := I1.hok.fresh (Nat.le_refl _)
    have I2 : Inv X pins σ (upd H h'.objs.size (.lst xs)) { s with heap := h'.push (seqObj "list" us.toArray 0), toks := tk } :=
      I1.laid (t' := tk) (fun b o e => Heap.get?_push_of_some _ e) (Nat.le_refl _) ⟨hz, us, 0, rs, Heap.get?_push_size _ rfl⟩
    rw [he]
    exact h.run pins _ σ _ [x, .ref h'.objs.size] _ Q I2 (.cons r1 (.cons rfl .nil)) (hw _ hn')
  rw [assign_Tuple]
  refine wpAny_bind (wpAny_standAt ?_)
  unfold unpack
  rw [hn, hst]
  rcases hq with hq | hq
  · obtain ⟨its, rv, ht, hz⟩ := I.list hq
    cases rv with
    | cons r1 rs =>
      have hl := rs.length
      refine wpAny_bind (wpAny_holding (star_list ht.isList (I.ok.hd hc) (by simp only [List.length_cons] at hz ⊢; omega) fun h' tk kk => ?_))
      exact fin _ _ h' tk r1 rs (by simp only [List.length_cons] at hz; omega) kk
  · obtain ⟨its, rv, ht, hz⟩ := I.tuple hq
    cases rv with
    | cons r1 rs =>
      have hl := rs.length
      refine wpAny_bind (wpAny_holding (star_tuple ht (I.ok.hd hc) (by simp only [List.length_cons] at hz ⊢; omega) fun h' tk kk => ?_))
      exact fin _ _ h' tk r1 rs (by simp only [List.length_cons] at hz; omega) kk
/-- a, *b = e: of a frozen list, of a tuple -/
def dStar (i j : Nat) (te : DE) : DS := fun D env M => te env M fun d M1 => match seqOf d with
  | some (x :: xs) => D.nx ((env.set i (some x)).set j (some (.lst xs))) M1
  | _ => False
theorem pds_star {i j : Nat} {te : DE} (he : PDE X e te) (hg : PDGs X [ea, eb] [.name i, .name j]) (hc : X.calm = true := by rfl)
    (hx : (assignEach [ea, .Starred eb p2] X.env).map (·.2) = (assignEach [ea, eb] X.env).map (·.2) := by rfl) (hn : (assignEach [ea, .Starred eb p2] X.env).length = 2 := by rfl) (hst : (assignEach [ea, .Starred eb p2] X.env).findIdx? (·.1) = some 1 := by rfl)
    (hs : swapsWithSole [.Tuple [ea, .Starred eb p2] k tpos] e pos.line X.env = pure false := by rfl) (hw : swappedStores [.Tuple [ea, .Starred eb p2] k tpos] e X.env = pure none := by rfl)
    (h1 : (assignEach [.Tuple [ea, .Starred eb p2] k tpos] X.env).map (·.2) = [assign (.Tuple [ea, .Starred eb p2] k tpos) X.env] := by rfl) : PDS X (.Assign [.Tuple [ea, .Starred eb p2] k tpos] e pos) (dStar i j te) := by
  refine ps_imp (ps_asg he (pg_star2 hc hg hx hn hst) hs hw h1) fun D0 σ H ⟨R, F, env, M, Dd, a, en, h, kk⟩ => ⟨R, F, env, M, _, a, en, h, fun F1 H1 M1 d v s1 a1 r1 q1 => ?_⟩
  have fin : ∀ (P : Addr) (x : D) (xs : List D) (vs : List V), Reps X.K F1 (x :: xs) vs → (∀ u us, vs = u :: us → SqL X.K H1 P (u :: us) ∨ SqT X.K H1 P (u :: us)) → Dd.nx ((env.set i (some x)).set j (some (.lst xs))) M1 → gStar2 X.K (tgsOf X.K [.name i, .name j]) (.ref P) σ H1 D0.nx := fun P x xs vs r hq q => by
    obtain ⟨u, us, e1, r1, r2⟩ := r
    subst e1
    refine ⟨P, u, us, rfl, hq u us rfl, fun p hp => ⟨_, _, rfl, ⟨_, _, rfl, ⟨rfl, ?_⟩⟩⟩⟩
    obtain ⟨a2, s2⟩ := a1.laid hp (.lst us)
    have rl : Rep X.K (upd F1 p (.lst us)) (.lst xs) (.ref p) := ⟨p, us, rfl, upd_same, r2.mono s2⟩
    exact kk.nx _ _ M1 _ _ (s1.trans s2) a2 ((((en.mono s1).mono s2).set i (r1.mono s2)).set j rl) q
  cases d with
  | lst ds =>
    obtain ⟨P, vs, rfl, hq, rx⟩ := r1
    cases ds with
    | nil => exact q1.elim
    | cons x xs => exact fin P x xs vs rx (fun u us e => .inl (by rw [← e]; exact a1.fz.seq (SqL.of hq))) q1
  | tup ds =>
    obtain ⟨P, vs, rfl, hq, rx⟩ := r1
    cases ds with
    | nil => exact q1.elim
    | cons x xs => exact fin P x xs vs rx (fun u us e => .inr (by rw [← e]; exact Same.seqT a1.fz hq)) q1
  | _ => exact q1.elim
end
end L3
set_option Elab.async false
set_option linter.all false
set_option maxRecDepth 100000
set_option maxHeartbeats 1000000
namespace L3
open PySem PySem.Spec PyProof.Rows L2
/-- a list (false) or a tuple (true) in the store -/
def SqB (b : Bool) (K : PySem.W.Frag) (H : Hp) (a : Addr) (xs : List V) : Prop := match b with
  | false => SqL K H a xs
  | true => SqT K H a xs
def IsSqB (b : Bool) (h : Heap) (a : Addr) (its : Array Value) : Prop := match b with
  | false => h.IsList a its
  | true => h.IsTuple a its
def IsItB (b : Bool) (h : Heap) (it a : Addr) (i : Nat) : Prop := match b with
  | false => h.IsListIter it a i
  | true => h.IsTupleIter it a i
theorem drawsB {P : Program} {w : World} {A : Around} (hh : A.handled = none) (b : Bool) (it a : Addr) (hne : a ≠ it) (its : Array Value) :
    Draws P w A it [it, a] its.size (fun i v => its[i]? = some v) (fun i h => IsItB b h it a i ∧ IsSqB b h a its) := by
  cases b
  · exact .list hh it a hne its
  · exact .tuple hh it a hne its
theorem IsItB.obj {b : Bool} {h : Heap} {it a : Addr} {i : Nat} (st : IsItB b h it a i) : ∃ o, h.get? it = some o ∧ ∀ v, o.data ≠ .cell v := by
  cases b
  · obtain ⟨o, e, _, d⟩ := st; exact ⟨o, e, fun v q => by rw [d] at q; cases q⟩
  · obtain ⟨o, e, _, d⟩ := st; exact ⟨o, e, fun v q => by rw [d] at q; cases q⟩
theorem IsItB.at' {b : Bool} {h h' : Heap} {it a : Addr} {i : Nat} (st : IsItB b h it a i) (k : ∀ o, h.get? it = some o → h'.get? it = some o) : IsItB b h' it a i := by
  cases b
  · exact Heap.IsListIter.at st k
  · exact Heap.IsTupleIter.at st k
theorem IsSqB.at' {b : Bool} {h h' : Heap} {a : Addr} {its : Array Value} (st : IsSqB b h a its) (k : ∀ o, h.get? a = some o → h'.get? a = some o) : IsSqB b h' a its := by
  cases b
  · exact Heap.IsList.at st k
  · exact Heap.IsTuple.at st k
theorem IsSqB.lt {b : Bool} {h : Heap} {a : Addr} {its : Array Value} (st : IsSqB b h a its) : a < h.objs.size := by
  cases b
  · obtain ⟨o, e, _⟩ := st; exact Heap.lt_size e
  · obtain ⟨o, e, _⟩ := st; exact Heap.lt_size e
section
variable {X : Cx} {pins : List (Addr × Obj)} {σ : L2.St} {H : Hp} {s : Shared} {a : Addr} {xs ys : List V} {b : Bool}
theorem inv_sqB (I : Inv X pins σ H s) (h : SqB b X.K H a xs) : ∃ its : List Value, Vals xs its ∧ IsSqB b s.heap a its.toArray ∧ xs.length ≤ sizeLine := by
  cases b
  · obtain ⟨its, r, p, z⟩ := I.list h; exact ⟨its, r, p.isList, z⟩
  · obtain ⟨its, r, p, z⟩ := I.tuple h; exact ⟨its, r, p, z⟩
theorem inv_sqB_inj (I : Inv X pins σ H s) (h : SqB b X.K H a xs) (h' : SqB b X.K H a ys) : xs = ys := by
  cases b
  · exact I.list_inj h h'
  · exact I.tuple_inj h h'
end
def objB (b : Bool) (a : Addr) : Obj := match b with
  | false => { cls := .type "list_iterator", data := .fields #[.ref a, .int 0 0] }
  | true => { cls := .type "tuple_iterator", data := .fields #[.ref a, .int 0 0] }
theorem beginsB (b : Bool) (a : Addr) (its : Array Value) : Begins (.ref a) (objB b a) fun h => IsSqB b h a its := by
  cases b
  · exact begins_list a its
  · exact begins_tuple a its
theorem itB_of {b : Bool} {h : Heap} {it a : Addr} (e : h.get? it = some (objB b a)) : IsItB b h it a 0 := by
  cases b
  · exact ⟨_, e, rfl, rfl⟩
  · exact ⟨_, e, rfl, rfl⟩
theorem nin2 {x p q : Addr} (h1 : x ≠ p) (h2 : x ≠ q) : x ∉ [p, q] := fun h => by
  rcases List.mem_cons.mp h with e | h
  · exact h1 e
  · rcases List.mem_cons.mp h with e | h
    · exact h2 e
    · cases h
/-- the items of a frozen list, of a tuple -/
def sqOf : D → Option (Bool × List D)
  | .lst xs => some (false, xs)
  | .tup xs => some (true, xs)
  | _ => none
theorem sqOf_at {K : PySem.W.Frag} {F : Hp} {d : D} {v : V} {b : Bool} {ds : List D} (h : sqOf d = some (b, ds)) (r : Rep K F d v) : ∃ p vs, v = .ref p ∧ SqB b K F p vs ∧ Reps K F ds vs := by
  cases d <;> first | (cases h; done) | skip
  · cases h
    obtain ⟨p, vs, rfl, hq, rx⟩ := r
    exact ⟨p, vs, rfl, hq, rx⟩
  · cases h
    obtain ⟨p, vs, rfl, hq, rx⟩ := r
    exact ⟨p, vs, rfl, SqL.of hq, rx⟩
theorem SqB.mono {b : Bool} {K : PySem.W.Frag} {F F' : Hp} {p : Addr} {vs : List V} (h : SqB b K F p vs) (s : Same F F') : SqB b K F' p vs := by
  cases b
  · exact s.seq h
  · exact Same.seqT s h
end L3
set_option Elab.async false
set_option linter.all false
set_option maxRecDepth 100000
set_option maxHeartbeats 1000000
namespace L3
open PySem PySem.Spec PyProof.Rows L2
def ItzS (K : PySem.W.Frag) (t : Str) (k2 : Bool) (b : Addr) : It :=
  ⟨fun i H => ∃ (ys : List V) (c : Nat) (y : V), t.cps[i]? = some c ∧ SqB k2 K H b ys ∧ ys[i]? = some y,
    fun i H v H' => ∃ T c y, v = .ref T ∧ H T = none ∧ H' = upd H T (.tup [.str ⟨#[c]⟩, y]) ∧ t.cps[i]? = some c ∧ (∀ ys, SqB k2 K H b ys → ys[i]? = some y),
    fun i H => ∃ ys : List V, SqB k2 K H b ys ∧ i ≤ t.cps.size ∧ i ≤ ys.length ∧ (i = t.cps.size ∨ i = ys.length)⟩
theorem turn_zipS {P : Program} {w : World} {K : PySem.W.Frag} {elts : List Expr} {kk : Nat} {tpos : Pos} {t : Str} {tk0 : Tok} {k2 : Bool} {b z TI TO i1 i2 : Addr} (D : ZipSep2 z TI TO i1 i2 [i1] [i2, b]) (h2b : b ≠ i2) :
    Turn P w K (.Tuple elts kk tpos) (ItzS K t k2 b) [z, TI, TO, i1, i2] z (fun i h => IsZip h z TI TO .none ∧ IsTupOf2 h TI (.ref i1) (.ref i2) ∧ (∃ x y, IsTupOf2 h TO x y) ∧ h.IsStrIter i1 (strIterType t) t tk0 i ∧ IsItB k2 h i2 b i) where
  mem := by simp
  obj := fun i h st d hd => by
    obtain ⟨hz, hTI, ⟨x, y, hTO⟩, h1, h2⟩ := st
    have e' : d = z ∨ d = TI ∨ d = TO ∨ d = i1 ∨ d = i2 := by simpa using hd
    rcases e' with q | q | q | q | q
    · rw [q]; exact ⟨_, hz, fun v q => nomatch q⟩
    · rw [q]; exact ⟨_, hTI, fun v q => nomatch q⟩
    · rw [q]; exact ⟨_, hTO, fun v q => nomatch q⟩
    · rw [q]
      obtain ⟨o, e, _, d⟩ := h1
      exact ⟨o, e, fun v q => by rw [d] at q; cases q⟩
    · rw [q]; exact h2.obj
  keep := fun i h h' st k => by
    obtain ⟨hz, hTI, ⟨x, y, hTO⟩, h1, h2⟩ := st
    obtain ⟨o, e, r⟩ := h1
    exact ⟨k z (by simp) _ hz, k TI (by simp) _ hTI, ⟨x, y, k TO (by simp) _ hTO⟩, ⟨o, k i1 (by simp) o e, r⟩, h2.at' fun o q => k i2 (by simp) o q⟩
  item := by
    intro X hP hw hK hc i pins s σ H E I hf st hg
    subst hP hw hK
    obtain ⟨hz, hTI, ⟨x0, y0, hTO⟩, h1, h2⟩ := st
    obtain ⟨ys, c, y, hx, hqy, hy⟩ := hg
    obtain ⟨its2, rv2, p2, _⟩ := inv_sqB I hqy
    obtain ⟨u2, hu2, ru2⟩ := rv2.get hy
    have hd : X.A.in1.handled = none := I.ok.hd hc
    have lt1 : i < t.cps.size := (Array.getElem?_eq_some_iff.mp hx).1
    have lt2 : i < its2.toArray.size := by have := (List.getElem?_eq_some_iff.mp hu2).1; simpa using this
    refine wpAny_pyNext_zipD2_item D (Draws.text hd i1 t tk0) (drawsB hd k2 i2 b h2b its2.toArray) hz hTI hTO h1 ⟨h2, p2⟩ lt1 lt2 fun w1 w2 h' tk e1 e2 z' TO' d1 d2 hT hsz hk => ?_
    obtain ⟨c', u, ec, ev⟩ := e1
    rw [hx] at ec
    cases ec
    have e2' : w2 = u2 := by have q : its2.toArray[i]? = some w2 := e2; rw [List.getElem?_toArray, hu2] at q; exact (Option.some.inj q).symm
    subst ev e2'
    have hzl : z < s.heap.objs.size := Heap.lt_size hz
    refine ⟨_, rfl, wpAny_letOwnedTupleGo_zip (s := { s with heap := h', toks := tk }) z' fun h'' z'' sb => ?_⟩
    have hT2 : h''.get? s.heap.objs.size = some { cls := .type "tuple", data := .seq #[.str ⟨#[c]⟩ u, w2] } := (sb.2 _ (Nat.ne_of_gt hzl)).trans hT
    have new : ObjOk X.prog X.w (upd H s.heap.objs.size (.tup [.str ⟨#[c]⟩, y])) h'' s.heap.objs.size (.tup [.str ⟨#[c]⟩, y]) :=
      ⟨by show 2 ≤ sizeLine; decide, [.str ⟨#[c]⟩ u, w2], .cons ⟨u, rfl⟩ (.cons ru2 .nil), ⟨_, hT2, rfl, _, rfl⟩⟩
    have I1 : Inv X pins σ (upd H s.heap.objs.size (.tup [.str ⟨#[c]⟩, y])) { s with heap := h'', toks := tk } :=
      I.turnedNew (t' := tk) (ch := [z, TI, TO, i1, i2]) (fun c o hb q => (sb.2 c (fun q' => hb (by simp [q']))).trans (hk c o (fun q' => hb (by simp [q'])) (fun q' => hb (by simp [q'])) (fun q' => hb (by simp [q'])) (fun q' => hb (by simp [q'])) q)) hf (Nat.le_refl _) new
    have zi1 : i1 ≠ z := fun e => D.zi1 e.symm
    have zi2 : i2 ≠ z := fun e => D.zi2 e.symm
    refine ⟨.ref s.heap.objs.size, _, I1, rfl, ⟨_, c, y, rfl, I.hok.fresh (Nat.le_refl _), rfl, hx, fun l hl => by rw [inv_sqB_inj I hl hqy]; exact hy⟩, ⟨z'', ?_, ⟨.str ⟨#[c]⟩ u, w2, ?_⟩, ?_, ?_⟩, fun c hcm => ?_⟩
    · exact (sb.2 _ D.TIz).trans (hk _ _ D.TIz D.TITO D.TIi1 D.TIi2 hTI)
    · exact (sb.2 _ D.TOz).trans TO'
    · obtain ⟨o, e, r⟩ := d1
      exact ⟨o, (sb.2 _ zi1).trans e, r⟩
    · exact d2.1.at' fun o q => (sb.2 _ zi2).trans q
    · have hlt : c < s.heap.objs.size := by
        have e' : c = z ∨ c = TI ∨ c = TO ∨ c = i1 ∨ c = i2 := by simpa using hcm
        rcases e' with q | q | q | q | q
        · rw [q]; exact hzl
        · rw [q]; exact Heap.lt_size hTI
        · rw [q]; exact Heap.lt_size hTO
        · rw [q]; obtain ⟨_, e1, _⟩ := h1; exact Heap.lt_size e1
        · rw [q]; obtain ⟨_, e1, _⟩ := h2.obj; exact Heap.lt_size e1
      rw [upd_ne (Nat.ne_of_lt hlt)]
      exact (hf c hcm).1
  done := by
    intro X hP hw hK hc i pins s σ H E I hf st hg
    subst hP hw hK
    obtain ⟨hz, hTI, ⟨x0, y0, hTO⟩, h1, h2⟩ := st
    obtain ⟨ys, hqy, le1, le2, hend⟩ := hg
    obtain ⟨its2, rv2, p2, _⟩ := inv_sqB I hqy
    have hd : X.A.in1.handled = none := I.ok.hd hc
    have l2 := rv2.length
    exact wpAny_pyNext_zipD2_end D (Draws.text hd i1 t tk0) (drawsB hd k2 i2 b h2b its2.toArray) hz hTI hTO h1 ⟨h2, p2⟩ le1 (by simp; omega) (by simp; omega)
      fun h' tk hk => ⟨rfl, I.turnedL (t' := tk) (ch := [z, TI, TO, i1, i2]) (fun c o hb q =>
        hk c o (fun q' => hb (by simp [q'])) (fun q' => hb (by simp [q'])) (fun q' => hb (by simp [q'])) (fun q' => hb (by simp [q'])) q) hf⟩
  self := fun A i s Q E st h => wpAny_pyIter_zip st.1 h
theorem apartS {n b : Addr} (hb : b < n) : ZipSep2 (n + 4) (n + 2) (n + 3) n (n + 1) [n] [n + 1, b] := by
  have f : ∀ i j : Nat, i ≠ j → (Nat.add n i) ≠ Nat.add n j := fun i j h e => h (Nat.add_left_cancel e)
  have g : ∀ (i : Nat) (x : Nat), Nat.lt x n → (Nat.add n i) ≠ x := fun i x h => Nat.ne_of_gt (Nat.lt_of_lt_of_le h (Nat.le_add_right _ _))
  have nin1 : ∀ {x p : Addr}, x ≠ p → x ∉ [p] := fun h q => h (List.mem_singleton.mp q)
  exact { TIz := f 2 4 (by decide), TOz := f 3 4 (by decide), TITO := f 2 3 (by decide), TIi1 := f 2 0 (by decide), mem1 := List.mem_cons_self, zf1 := nin1 (f 4 0 (by decide)), Tf1 := nin1 (f 3 0 (by decide)),
          TIi2 := f 2 1 (by decide), mem2 := List.mem_cons_self, zf2 := nin2 (f 4 1 (by decide)) (g 4 b hb), Tf2 := nin2 (f 3 1 (by decide)) (g 3 b hb),
          sep1_2 := nin2 (f 0 1 (by decide)) (g 0 b hb), sep2_1 := nin1 (f 1 0 (by decide)) }
def iZipAS (K : PySem.W.Frag) (ta : TA) : TI := fun σ H R => ta σ H fun vs H1 => ∃ t k2 b ys, vs = [.str t, .ref b] ∧ SqB k2 K H1 b ys ∧ R (ItzS K t k2 b) H1
theorem pi_zipS {X : Cx} {e e2 : Expr} {ta : TA} {p pos tpos : Pos} {elts : List Expr} {kk : Nat} (hg : Gl X "zip") (hm : X.mg "zip" = none) (ha : PA X [e, e2] ta)
    (hs : starEach [e, e2] X.env = (false, eval e X.env) :: starEach [e2] X.env := by rfl) (hpl : (backTo pos (starEach [e2] X.env)).any (·.1) = false := by rfl) :
    PI X (.Tuple elts kk tpos) (.Call (.Name "zip" p) [e, e2] [] pos) (iZipAS X.K ta) := by
  refine ⟨fun pins s σ H R I h => ?_⟩
  refine Call_ (ld_blt I hg hm PyProof.Rows.boot_zip (PyProof.Rows.callWith_type1 (thn (ha.run pos pins s σ H _ I h) fun us s1 ⟨vs, H1, I1, r1, q1⟩ => ?_) hs hpl))
  obtain ⟨t, k2, b, ys, ex, hqy, q⟩ := q1
  subst ex
  cases r1 with
  | cons r rr =>
    cases rr with
    | cons r' rr =>
      cases rr
      obtain ⟨tk0, rfl⟩ := r
      cases r'
      obtain ⟨its2, rv2, p2, _⟩ := inv_sqB I1 hqy
      have fresh : ∀ d, d ∈ [s1.heap.objs.size + 4, s1.heap.objs.size + 2, s1.heap.objs.size + 3, s1.heap.objs.size, s1.heap.objs.size + 1] → FpOk X pins H1 d := fun d hcm => by
        have e' : d = s1.heap.objs.size + 4 ∨ d = s1.heap.objs.size + 2 ∨ d = s1.heap.objs.size + 3 ∨ d = s1.heap.objs.size ∨ d = s1.heap.objs.size + 1 := by simpa using hcm
        have hle : s1.heap.objs.size ≤ d := by
          rcases e' with z | z | z | z | z
          · rw [z]; exact Nat.le_add_right _ _
          · rw [z]; exact Nat.le_add_right _ _
          · rw [z]; exact Nat.le_add_right _ _
          · rw [z]; exact Nat.le_refl _
          · rw [z]; exact Nat.le_add_right _ _
        exact I1.fpOk hle (I1.hok.fresh hle)
      refine zip_begins2 (begins_text t tk0) (beginsB k2 b its2.toArray) trivial p2 fun h' hz hTI hTO h1 h2 hsz hk => wpAny_pyIter_zip hz ?_
      have I2 : Inv X pins σ H1 { s1 with heap := h' } := I1.kept (t' := s1.toks) hk
      exact ⟨s1.heap.objs.size + 4, [s1.heap.objs.size + 4, s1.heap.objs.size + 2, s1.heap.objs.size + 3, s1.heap.objs.size, s1.heap.objs.size + 1], _, _, H1, rfl, I2,
        turn_zipS (tk0 := tk0) (apartS p2.lt) (Nat.ne_of_lt (Nat.lt_of_lt_of_le p2.lt (Nat.le_add_right _ _))), ⟨hz, hTI, ⟨_, _, hTO⟩, ⟨_, h1, rfl, rfl⟩, itB_of h2⟩, fresh, q⟩
/-- zip of a text and a frozen list or a tuple -/
def iZipTx (t : DA) : DI := fun env M Q => t env M fun ds M1 => match ds with
  | [.str x, e] => (match sqOf e with
    | some (_, ys) => Q (List.zipWith (fun a b => .tup [a, b]) (signs x) ys) M1
    | none => False)
  | _ => False
section
variable {X : Cx} {e e2 : Expr} {p pos : Pos} {t : DA}
theorem pdi_zipTx {elts : List Expr} {kk : Nat} {tpos : Pos} (hm : X.mg "zip" = none) (ha : PDA X [e, e2] t) (hg : Gl X "zip" := by rfl)
    (hs : starEach [e, e2] X.env = (false, eval e X.env) :: starEach [e2] X.env := by rfl) (hpl : (backTo pos (starEach [e2] X.env)).any (·.1) = false := by rfl) : PDI X (.Tuple elts kk tpos) (.Call (.Name "zip" p) [e, e2] [] pos) (iZipTx t) := by
  refine pi_imp (pi_zipS hg hm (pa_held ha) hs hpl) fun σ H Z ⟨R, F, env, M, Qd, a, e, h, k⟩ => ⟨R, F, env, M, _, a, e, h, fun F1 H1 M1 ds vs s1 a1 r1 l1 q1 pins s σ I => ?_⟩
  split at q1
  · rename_i x d2
    split at q1
    · rename_i b2 ys e2
      obtain ⟨v1, _, rfl, r1, v2, _, rfl, r2, rfl⟩ := r1
      obtain ⟨p2, vy, rfl, hy, ry⟩ := sqOf_at e2 r2
      obtain ⟨_, _, _, hyl⟩ := inv_sqB I (hy.mono a1.fz)
      have ly := ry.length
      obtain ⟨rfl, rok⟩ := r1
      have sl : (signs x).length = x.cps.size := by unfold signs; simp
      refine ⟨x, b2, p2, vy, rfl, hy.mono a1.fz, k F1 H1 M1 _ _ s1 a1 ⟨by rw [List.length_zipWith]; omega, fun R F' M H s a' => ⟨vy, (hy.mono s).mono a'.fz, by rw [List.length_zipWith]; omega, by rw [List.length_zipWith]; omega, by rw [List.length_zipWith]; omega⟩, fun i d R F' M H s a' hi => ?_⟩ q1⟩
      obtain ⟨xx, y, h1, h2, rfl⟩ := zip_at hi
      obtain ⟨u2, hu2, ru2⟩ := ry.get h2
      unfold signs at h1
      rw [List.getElem?_map] at h1
      obtain ⟨c, hc, rfl⟩ := Option.map_eq_some_iff.mp h1
      refine ⟨⟨vy, c, u2, by rw [← Array.getElem?_toList]; exact hc, (hy.mono s).mono a'.fz, hu2⟩, fun v' H' ⟨T, c', y', ev, hT, eH, z1, z2⟩ => ?_⟩
      rw [← Array.getElem?_toList, hc] at z1
      cases z1
      have ey := z2 vy ((hy.mono s).mono a'.fz)
      rw [hu2] at ey
      cases ey
      subst ev eH
      exact new_pair a' hT (d := sgn c) ⟨rfl, sgn_ok rok (List.mem_of_getElem? hc)⟩ (ru2.mono s)
    · exact q1.elim
  · exact q1.elim
end
end L3
set_option Elab.async false
set_option linter.all false
set_option maxRecDepth 100000
set_option maxHeartbeats 1000000
namespace L3
open PySem PySem.Spec PyProof.Rows L2 NS
local macro_rules | `(tactic| walk_at "w") => `(tactic| conv => whnf)
theorem isWr_okB {w : Wr} (h : WrOk w) : isWr w.name w.ar w.pat w.cap = true := by
  have h1 : w.ar.all arB = true := by
    rw [List.all_eq_true]
    intro a ha
    have := h.ar a ha
    obtain ⟨c, hc, hl⟩ := this.sg
    unfold arB
    have hs : isSign a.sg = true := by rw [hc, isSign_one]; exact hl
    simp [this.at0, this.at1, hs, this.to0, this.to1]
  unfold isWr
  simp only [h.name, h.few, h1, h.up, h.pat0, h.pat1, h.cap0, h.cap1, decide_true, Bool.and_self]
theorem wr_parts {w : Wr} (h : WrOk w) (h1 : 47 ∉ w.name.cps.toList) (h2 : 47 ∉ (rowTx w.ar).cps.toList) (h3 : 47 ∉ (numS w.pat).cps.toList) (h4 : 47 ∉ (numS w.cap).cps.toList) :
    Txt.split (wrTx w) (Str.ofString "/") = [w.name, rowTx w.ar, numS w.pat, numS w.cap] := by
  have e : wrTx w = Txt.join (Str.ofString "/") [w.name, rowTx w.ar, numS w.pat, numS w.cap] := by
    rw [TL.join_eq]
    have as : ∀ x y z : Str, x ++ y ++ z = x ++ (y ++ z) := fun x y z => by
      show (⟨x.cps ++ y.cps ++ z.cps⟩ : Str) = ⟨x.cps ++ (y.cps ++ z.cps)⟩
      rw [Array.append_assoc]
    show w.name ++ Str.ofString "/" ++ rowTx w.ar ++ Str.ofString "/" ++ numS w.pat ++ Str.ofString "/" ++ numS w.cap = w.name ++ Str.ofString "/" ++ (rowTx w.ar ++ Str.ofString "/" ++ (numS w.pat ++ Str.ofString "/" ++ numS w.cap))
    simp only [as]
  rw [e]
  refine TL.split_join (s := 47) (S := []) (by decide +kernel) (by decide +kernel) (by simp) fun p hp => ?_
  simp only [List.mem_cons, List.not_mem_nil, or_false] at hp
  rcases hp with rfl | rfl | rfl | rfl
  · exact h1
  · exact h2
  · exact h3
  · exact h4
theorem wr_split {w : Wr} (h : WrOk w) : Txt.split (wrTx w) (Str.ofString "/") = [w.name, rowTx w.ar, numS w.pat, numS w.cap] := by
  refine wr_parts h (fun q => ?_) (fun q => ?_) (fun q => ?_) (fun q => ?_)
  · have := name_ch h.name q; omega
  · have := rowTx_ch h.ar q; omega
  · have := dig_ch h.pat0 h.pat1 q; omega
  · have := dig_ch h.cap0 h.cap1 q; omega
theorem row_split {as : List Ar} (h : ∀ a ∈ as, ArOk a) (hne : as ≠ []) : Txt.split (rowTx as) (Str.ofString ";") = as.map arTx := by
  unfold rowTx
  rw [if_neg hne]
  refine TL.split_join (s := 59) (S := []) (by decide +kernel) (by decide +kernel) (by simpa using hne) fun p hp q => ?_
  obtain ⟨a, ha, rfl⟩ := List.mem_map.mp hp
  rcases arTx_ch (h a ha) q with q | q
  · omega
  · have := letter_rng q; omega
theorem rowTx_dash {as : List Ar} (h : ∀ a ∈ as, ArOk a) : (rowTx as == Str.ofString "-") = as.isEmpty := by
  cases as with
  | nil => decide +kernel
  | cons a as =>
    have : rowTx (a :: as) ≠ Str.ofString "-" := fun e => by
      obtain ⟨m, c, n, _, _, _, _, e3⟩ := arTx_eq (h a (List.mem_cons_self ..))
      have hg := join_ge (a := Str.ofString ";") (x := arTx a) (ys := as.map arTx)
      have e2 : Txt.join (Str.ofString ";") ((a :: as).map arTx) = Str.ofString "-" := by
        rw [← e]; unfold rowTx; rw [if_neg (by simp)]
      rw [List.map_cons] at e2
      rw [e2, e3] at hg
      have h3 : (⟨#[48 + m, c, 48 + n]⟩ : Str).length = 3 := rfl
      have h1 : (Str.ofString "-").length = 1 := by decide +kernel
      omega
    rw [List.isEmpty_cons]
    exact beq_eq_false_iff_ne.mpr this
theorem arPr_tx {a : Ar} (h : ArOk a) : arPr (arTx a) = some a := by
  obtain ⟨m, c, n, hm, hn, hc, e1, e2⟩ := arTx_eq h
  rw [e2]
  have f1 : figB (48 + m) = true := by unfold figB; simp; omega
  have f2 : figB (48 + n) = true := by unfold figB; simp; omega
  show (if figB (48 + m) = true ∧ figB (48 + n) = true then some (⟨((48 + m - 48 : Nat) : Int), ⟨#[c]⟩, ((48 + n - 48 : Nat) : Int)⟩ : Ar) else none) = some a
  rw [if_pos ⟨f1, f2⟩, e1, show 48 + m - 48 = m by omega, show 48 + n - 48 = n by omega]
theorem allS_map {α β : Type} {f : α → Option β} {g : β → α} : ∀ {xs : List β}, (∀ x ∈ xs, f (g x) = some x) → allS ((xs.map g).map f) = some xs
  | [], _ => rfl
  | x :: xs, h => by
    rw [List.map_cons, List.map_cons, h x List.mem_cons_self]
    show (allS ((xs.map g).map f)).map (fun l => x :: l) = _
    rw [allS_map fun y hy => h y (List.mem_cons_of_mem _ hy)]; rfl
theorem wrP_tx {w : Wr} (h : WrOk w) : wrP (Txt.split (wrTx w) "/") = some w := by
  obtain ⟨p, hp, ep, tp⟩ := dig h.pat0 h.pat1
  obtain ⟨g, hg, eg, tg⟩ := dig h.cap0 h.cap1
  have f1 : figB (48 + p) = true := by unfold figB; simp; omega
  have f2 : figB (48 + g) = true := by unfold figB; simp; omega
  have er : allS (rowsP (rowTx w.ar)) = some w.ar := by
    unfold rowsP
    cases e : w.ar with
    | nil => rfl
    | cons a as =>
      have hd := rowTx_dash h.ar
      rw [e] at hd
      have hne : rowTx (a :: as) ≠ "-" := beq_eq_false_iff_ne.mp hd
      rw [if_neg hne]
      have := row_split h.ar (by rw [e]; exact List.cons_ne_nil _ _)
      rw [e] at this
      rw [show Txt.split (rowTx (a :: as)) ";" = (a :: as).map arTx from this]
      exact allS_map fun x hx => arPr_tx (h.ar x (by rw [e]; exact hx))
  rw [show Txt.split (wrTx w) "/" = [w.name, rowTx w.ar, numS w.pat, numS w.cap] from wr_split h, tp, tg]
  show (match allS (rowsP (rowTx w.ar)) with
      | some as => if figB (48 + p) = true ∧ figB (48 + g) = true then endP w.name as ((48 + p - 48 : Nat) : Int) ((48 + g - 48 : Nat) : Int) else none
      | none => none) = some w
  rw [er]
  show (if figB (48 + p) = true ∧ figB (48 + g) = true then endP w.name w.ar ((48 + p - 48 : Nat) : Int) ((48 + g - 48 : Nat) : Int) else none) = some w
  rw [if_pos ⟨f1, f2⟩, show 48 + p - 48 = p by omega, show 48 + g - 48 = g by omega, ← ep, ← eg]
  unfold endP
  rw [if_pos (isWr_okB h)]
def digB (c : Nat) : Bool := decide (48 ≤ c) && decide (c ≤ 57)
def figsOf (l : List Nat) : List Nat := match l with
  | [] => []
  | c :: r => if c = 45 then r else c :: r
def goodN (x : Str) : Bool := decide (0 < (figsOf (chs x)).length) && (decide ((figsOf (chs x)).length ≤ 30) && ((figsOf (chs x)).all digB && !((figsOf (chs x)).head? == some 48 && x != "0")))
def numP (x : Str) : Option Int := if goodN x = true then PySem.intText? x else none
theorem dig_rng {c : Nat} : digB c = true ↔ 48 ≤ c ∧ c ≤ 57 := by unfold digB; simp
theorem num_some {x : Str} (h : goodN x = true) : ∃ i, PySem.intText? x = some i ∧ x.length ≤ 31 := by
  unfold goodN at h
  simp only [Bool.and_eq_true, decide_eq_true_eq] at h
  obtain ⟨h0, h30, hd, _⟩ := h
  have hd : ∀ c ∈ figsOf (chs x), 48 ≤ c ∧ c ≤ 57 := fun c hc => dig_rng.mp (List.all_eq_true.mp hd c hc)
  have hl : (chs x).length = x.length := Array.length_toList
  cases e : chs x with
  | nil => rw [e] at h0; exact absurd h0 (by decide)
  | cons c r =>
    rw [e] at h0 h30 hd hl
    by_cases hc : c = 45
    · subst hc
      have ef : figsOf (45 :: r) = r := rfl
      rw [ef] at h0 h30 hd
      rw [List.length_cons] at hl
      exact ⟨_, PySem.intText_neg (x := x) (cs := r) e (fun c hc => hd c hc) (List.length_pos_iff.mp h0) (by omega), by omega⟩
    · have ef : figsOf (c :: r) = c :: r := by show (if c = 45 then r else c :: r) = _; rw [if_neg hc]
      rw [ef] at h0 h30 hd
      rw [List.length_cons] at hl h30
      refine ⟨_, PySem.intText_digits (x := x) (fun z hz => ?_) ?_ (by omega), by omega⟩
      · have hz : z ∈ chs x := hz
        rw [e] at hz; exact hd z hz
      · show chs x ≠ []
        rw [e]; exact List.cons_ne_nil _ _
theorem dig_head : ∀ d : Nat, d < 10 → 0 < d → (Nat.digitChar d).toNat ≠ 48 := by decide
theorem digs_head (m : Nat) (h : 0 < m) : ((Nat.toDigits 10 m).map Char.toNat).head? ≠ some 48 := by
  induction m using Nat.strongRecOn with
  | _ m ih =>
    by_cases hm : m < 10
    · rw [Nat.toDigits_of_lt_base hm]
      intro e
      have e : some (Nat.digitChar m).toNat = some 48 := e
      exact dig_head m hm h (Option.some.inj e)
    · have hr : m % 10 < 10 := Nat.mod_lt m (by decide)
      have t : Nat.toDigits 10 (m / 10) ++ Nat.toDigits 10 (m % 10) = Nat.toDigits 10 (10 * (m / 10) + m % 10) := Nat.toDigits_append_toDigits (by decide) (by omega) hr
      rw [Nat.div_add_mod] at t
      have i := ih (m / 10) (by omega) (by omega)
      rw [← t, List.map_append]
      cases e : (Nat.toDigits 10 (m / 10)).map Char.toNat with
      | nil =>
        have v := PySem.W.KIN.val_back (m / 10)
        rw [e] at v
        have v : 0 = m / 10 := v
        omega
      | cons c r => rw [e] at i; exact i
theorem digs_len (m k : Nat) (h : m < 10 ^ (k + 1)) : (Nat.toDigits 10 m).length ≤ k + 1 := by
  induction k generalizing m with
  | zero => rw [Nat.toDigits_of_lt_base (by omega)]; exact Nat.le_refl _
  | succ k ih =>
    by_cases hm : m < 10
    · rw [Nat.toDigits_of_lt_base hm]; show 1 ≤ _; omega
    · have hr : m % 10 < 10 := Nat.mod_lt m (by decide)
      have t : Nat.toDigits 10 (m / 10) ++ Nat.toDigits 10 (m % 10) = Nat.toDigits 10 (10 * (m / 10) + m % 10) := Nat.toDigits_append_toDigits (by decide) (by omega) hr
      rw [Nat.div_add_mod] at t
      have i := ih (m / 10) (by rw [Nat.pow_succ] at h; omega)
      rw [← t, List.length_append, Nat.toDigits_of_lt_base hr]
      show _ + 1 ≤ _; omega
theorem digs_all (m : Nat) : ∀ c ∈ (Nat.toDigits 10 m).map Char.toNat, 48 ≤ c ∧ c ≤ 57 := fun c hc => by
  obtain ⟨ch, hch, e⟩ := List.mem_map.mp hc
  rw [← e]
  exact PyProof.Rows.digit_range (Nat.isDigit_of_mem_toDigits (by decide) (by decide) hch)
theorem digs_ne (m : Nat) : (Nat.toDigits 10 m).map Char.toNat ≠ [] := fun e => by
  by_cases h : m < 10
  · rw [Nat.toDigits_of_lt_base h] at e; cases e
  · have v := PySem.W.KIN.val_back m
    rw [e] at v
    have v : 0 = m := v
    omega
theorem numS_ch (i : Int) : chs (numS i) = if i < 0 then 45 :: (Nat.toDigits 10 i.natAbs).map Char.toNat else (Nat.toDigits 10 i.natAbs).map Char.toNat := by
  cases i with
  | ofNat m =>
    rw [if_neg (by simp)]
    exact PySem.W.KIN.signs_num m
  | negSucc m =>
    rw [if_pos (Int.negSucc_lt_zero m)]
    show (Str.ofString (toString (Int.negSucc m))).cps.toList = _
    rw [PyProof.Rows.signs_ofString]
    show ("-" ++ Nat.repr (m + 1)).toList.map Char.toNat = _
    rw [String.toList_append, List.map_append, Nat.toList_repr]
    rfl
theorem numP_tx {i : Int} (h : i.natAbs < 10 ^ 30) : numP (numS i) = some i ∧ (numS i).length ≤ 31 ∧ ∀ c ∈ chs (numS i), c = 45 ∨ (48 ≤ c ∧ c ≤ 57) := by
  have hc := numS_ch i
  have hl : (chs (numS i)).length = (numS i).length := Array.length_toList
  have dl := digs_len i.natAbs 29 h
  rw [← List.length_map (f := Char.toNat)] at dl
  have da := digs_all i.natAbs
  have dn := digs_ne i.natAbs
  have dv := PySem.W.KIN.val_back i.natAbs
  have dh := digs_head i.natAbs
  generalize (Nat.toDigits 10 i.natAbs).map Char.toNat = L at hc dl da dn dv dh
  have l0 : 0 < L.length := List.length_pos_iff.mpr dn
  have dg : L.all digB = true := List.all_eq_true.mpr fun c hc => dig_rng.mpr (da c hc)
  by_cases hi : i < 0
  · rw [if_pos hi] at hc
    rw [hc, List.length_cons] at hl
    have ef : figsOf (chs (numS i)) = L := by rw [hc]; rfl
    have hh : (L.head? == some 48) = false := beq_eq_false_iff_ne.mpr (dh (by omega))
    have hg : goodN (numS i) = true := by
      unfold goodN
      rw [ef, decide_eq_true l0, decide_eq_true dl, dg, hh]; rfl
    refine ⟨?_, by omega, fun c hcc => ?_⟩
    · unfold numP
      rw [if_pos hg, PySem.intText_neg (x := numS i) (cs := L) hc da dn (by omega), dv]
      congr 1; omega
    · rw [hc] at hcc
      rcases List.mem_cons.mp hcc with rfl | hcc
      · exact .inl rfl
      · exact .inr (da c hcc)
  · rw [if_neg hi] at hc
    rw [hc] at hl
    have ef : figsOf (chs (numS i)) = L := by
      rw [hc]
      cases L with
      | nil => rfl
      | cons c r =>
        have := da c List.mem_cons_self
        show (if c = 45 then r else c :: r) = _
        rw [if_neg (by omega)]
    have hh : (L.head? == some 48 && numS i != "0") = false := by
      by_cases h0 : i.natAbs = 0
      · have : i = 0 := by omega
        rw [this]
        have : (numS 0 != "0") = false := by decide +kernel
        rw [this, Bool.and_false]
      · rw [beq_eq_false_iff_ne.mpr (dh (by omega)), Bool.false_and]
    have hg : goodN (numS i) = true := by
      unfold goodN
      rw [ef, decide_eq_true l0, decide_eq_true dl, dg, hh]; rfl
    refine ⟨?_, by omega, fun c hcc => .inr (da c (by rw [hc] at hcc; exact hcc))⟩
    unfold numP
    rw [if_pos hg, PySem.intText_digits (x := numS i) (fun c hcc => da c (by rw [← hc]; exact hcc)) (by show chs (numS i) ≠ []; rw [hc]; exact dn) (by omega)]
    rw [show (numS i).cps.toList = L from hc, dv]
    congr 1; omega
inductive Th where
  | wr (w : Wr) | nm (x : Str) | num (i : Int)
def thgD : Th → D
  | .wr w => wrD w
  | .nm x => .str x
  | .num i => .int i
def thTx : Th → Str
  | .wr w => wrTx w
  | .nm x => x
  | .num i => numS i
abbrev Dd := Str × List Th
def dD (d : Dd) : D := .tup (.str d.1 :: d.2.map thgD)
def dTx (d : Dd) : Str := Txt.join " " (d.1 :: d.2.map thTx)
def tb_FORMS : List (Str × D) := rowsOf ["come", "leave", "change", "sign", "said", "denied", "unsay", "watch", "unwatch"] ((["w", "n", "w", "s", "bn", "bn", "b", "b", "b"] : List Str).map D.str)
def thP (k x : Str) : Option Th := if k = "w" then (wrP (Txt.split x "/")).map .wr else if k = "b" then (numP x).map .num else if k = "n" then (if isName x = true then some (.nm x) else none) else if isSign x = true then some (.nm x) else none
def oneS (x : Str) : List Str := x.cps.toList.map fun c => ⟨#[c]⟩
def formOf (w : Str) : Option Str := match lookS tb_FORMS w with
  | some (.str f) => some f
  | _ => none
def deedP (ps : List Str) : Option Dd := match ps with
  | [] => none
  | w :: rows => match formOf w with
    | some f => if rows.length = f.length then (allS (List.zipWith thP (oneS f) rows)).map fun ts => (w, ts) else none
    | none => none
theorem forms_in {w : Str} : ∀ d, lookS tb_FORMS w = some d → ∃ f : Str, d = .str f ∧ f ∈ (["w", "n", "s", "bn", "b"] : List Str) ∧ w ∈ (["come", "leave", "change", "sign", "said", "denied", "unsay", "watch", "unwatch"] : List Str) := by
  have key : ∀ (ks zs : List Str) d, lookS (rowsOf ks (zs.map D.str)) w = some d → ∃ f, d = .str f ∧ f ∈ zs ∧ w ∈ ks := fun ks => by
    induction ks with
    | nil => intro zs d h; cases h
    | cons k ks ih =>
      intro zs d h
      cases zs with
      | nil => cases h
      | cons z zs =>
        have h : (if k = w then some (D.str z) else lookS (rowsOf ks (zs.map D.str)) w) = some d := h
        by_cases c : k = w
        · rw [if_pos c] at h; cases h
          exact ⟨z, rfl, List.mem_cons_self, by rw [c]; exact List.mem_cons_self⟩
        · rw [if_neg c] at h
          obtain ⟨f, e, h1, h2⟩ := ih zs d h
          exact ⟨f, e, List.mem_cons_of_mem _ h1, List.mem_cons_of_mem _ h2⟩
  intro d h
  obtain ⟨f, e, h1, h2⟩ := key _ _ d h
  refine ⟨f, e, ?_, h2⟩
  simp only [List.mem_cons, List.not_mem_nil, or_false] at h1
  rcases h1 with rfl | rfl | rfl | rfl | rfl | rfl | rfl | rfl | rfl <;> simp
/-- what is a thing of a kind -/
def ThOk : Str → Th → Prop
  | k, .wr w => k = "w" ∧ WrOk w
  | k, .num i => k = "b" ∧ i.natAbs < 10 ^ 30
  | k, .nm x => (k = "n" ∧ isName x = true) ∨ (k = "s" ∧ isSign x = true)
def ThsOk : List Str → List Th → Prop
  | [], [] => True
  | k :: ks, t :: ts => ThOk k t ∧ ThsOk ks ts
  | _, _ => False
def DeedOk (d : Dd) : Prop := ∃ f, formOf d.1 = some f ∧ ThsOk (oneS f) d.2
theorem thP_tx {k : Str} {t : Th} (h : ThOk k t) : thP k (thTx t) = some t := by
  unfold thP
  cases t with
  | wr w =>
    obtain ⟨rfl, hw⟩ := h
    rw [if_pos rfl]
    show (wrP (Txt.split (wrTx w) "/")).map Th.wr = _
    rw [wrP_tx hw]; rfl
  | num i =>
    obtain ⟨rfl, hi⟩ := h
    rw [if_neg (by decide), if_pos rfl]
    show (numP (numS i)).map Th.num = _
    rw [(numP_tx hi).1]; rfl
  | nm x =>
    rcases h with ⟨rfl, hx⟩ | ⟨rfl, hx⟩
    · rw [if_neg (by decide), if_neg (by decide), if_pos rfl]
      show (if isName x = true then some (Th.nm x) else none) = _
      rw [if_pos hx]
    · rw [if_neg (by decide), if_neg (by decide), if_neg (by decide)]
      show (if isSign x = true then some (Th.nm x) else none) = _
      rw [if_pos hx]
theorem ths_tx : ∀ {ks : List Str} {ts : List Th}, ThsOk ks ts → allS (List.zipWith thP ks (ts.map thTx)) = some ts ∧ ts.length = ks.length
  | [], [], _ => ⟨rfl, rfl⟩
  | k :: ks, t :: ts, ⟨h1, h2⟩ => by
    obtain ⟨i1, i2⟩ := ths_tx h2
    rw [List.map_cons, List.zipWith_cons_cons, thP_tx h1]
    refine ⟨?_, by rw [List.length_cons, List.length_cons, i2]⟩
    show (allS (List.zipWith thP ks (ts.map thTx))).map (fun l => t :: l) = _
    rw [i1]; rfl
  | [], _ :: _, h => h.elim
  | _ :: _, [], h => h.elim
theorem sign_ch {x : Str} (h : isSign x = true) : ∃ c, x = ⟨#[c]⟩ ∧ isLetter c = true := by
  unfold isSign at h
  rw [Bool.and_eq_true] at h
  have hl := of_decide_eq_true h.2
  have hn := h.1
  cases x with
  | mk cs =>
    cases cs with
    | mk l =>
      match l, hl with
      | [c], _ =>
        refine ⟨c, rfl, ?_⟩
        unfold isName at hn
        simp only [Bool.and_eq_true] at hn
        exact List.all_eq_true.mp hn.2.2 c (List.mem_singleton_self _)
theorem app_ch {x y : Str} {c : Nat} : c ∈ chs (x ++ y) ↔ c ∈ chs x ∨ c ∈ chs y := by
  show c ∈ (x.cps ++ y.cps).toList ↔ _
  rw [Array.toList_append, List.mem_append]
theorem wrTx_ch {w : Wr} (h : WrOk w) {c : Nat} (hc : c ∈ chs (wrTx w)) : 45 ≤ c ∧ c ≤ 122 := by
  have sl : ∀ c ∈ chs ("/" : Str), c = 47 := by decide +kernel
  unfold wrTx at hc
  simp only [app_ch] at hc
  rcases hc with (((((hc | hc) | hc) | hc) | hc) | hc) | hc
  · have := name_ch h.name hc; omega
  · have := sl c hc; omega
  · have := rowTx_ch h.ar hc; omega
  · have := sl c hc; omega
  · have := dig_ch h.pat0 h.pat1 hc; omega
  · have := sl c hc; omega
  · have := dig_ch h.cap0 h.cap1 hc; omega
theorem thTx_ch {k : Str} {t : Th} (h : ThOk k t) : (∀ c ∈ chs (thTx t), 45 ≤ c ∧ c ≤ 122) ∧ (thTx t).length ≤ 60 := by
  cases t with
  | wr w => exact ⟨fun c hc => wrTx_ch h.2 hc, wrTx_len h.2⟩
  | num i =>
    obtain ⟨_, h1, h2⟩ := numP_tx h.2
    exact ⟨fun c hc => by have := h2 c hc; omega, by show (numS i).length ≤ 60; omega⟩
  | nm x =>
    rcases h with ⟨_, hx⟩ | ⟨_, hx⟩
    · exact ⟨fun c hc => by have := name_ch hx hc; omega, by have := (name_len hx).2; show x.length ≤ 60; omega⟩
    · obtain ⟨c, rfl, hl⟩ := sign_ch hx
      refine ⟨fun d hd => ?_, by show 1 ≤ 60; decide⟩
      have : d = c := List.mem_singleton.mp hd
      have := letter_rng hl
      omega
theorem ths_ch : ∀ {ks : List Str} {ts : List Th}, ThsOk ks ts → ∀ t ∈ ts, (∀ c ∈ chs (thTx t), 45 ≤ c ∧ c ≤ 122) ∧ (thTx t).length ≤ 60
  | [], [], _, t, ht => nomatch ht
  | k :: ks, u :: ts, ⟨h1, h2⟩, t, ht => by
    rcases List.mem_cons.mp ht with rfl | ht
    · exact thTx_ch h1
    · exact ths_ch h2 t ht
  | [], _ :: _, h, _, _ => h.elim
  | _ :: _, [], h, _, _ => h.elim
theorem word_ch {w f : Str} (h : formOf w = some f) : (∀ c ∈ chs w, 97 ≤ c ∧ c ≤ 122) ∧ w.length ≤ 7 ∧ f.length ≤ 2 ∧ SOk w ∧ SOk f ∧ f ∈ (["w", "n", "s", "bn", "b"] : List Str) ∧ lookS tb_FORMS w = some (.str f) := by
  have hl : lookS tb_FORMS w = some (.str f) := by
    unfold formOf at h
    split at h
    · rename_i g e
      cases h; exact e
    · cases h
  obtain ⟨g, e, hg, hw⟩ := forms_in _ hl
  cases e
  have key : ∀ w ∈ (["come", "leave", "change", "sign", "said", "denied", "unsay", "watch", "unwatch"] : List Str), (∀ c ∈ chs w, 97 ≤ c ∧ c ≤ 122) ∧ w.length ≤ 7 ∧ SOk w := by decide +kernel
  have key2 : ∀ f ∈ (["w", "n", "s", "bn", "b"] : List Str), f.length ≤ 2 ∧ SOk f := by decide +kernel
  exact ⟨(key w hw).1, (key w hw).2.1, (key2 f hg).1, (key w hw).2.2, (key2 f hg).2, hg, hl⟩
theorem dTx_split {d : Dd} (h : DeedOk d) : Txt.split (dTx d) " " = d.1 :: d.2.map thTx := by
  obtain ⟨f, hf, ht⟩ := h
  obtain ⟨w1, _⟩ := word_ch hf
  refine TL.split_join (s := 32) (S := []) (by decide +kernel) (by decide +kernel) (List.cons_ne_nil _ _) fun p hp q => ?_
  rcases List.mem_cons.mp hp with rfl | hp
  · have := w1 32 q; omega
  · obtain ⟨t, htm, rfl⟩ := List.mem_map.mp hp
    have := (ths_ch ht t htm).1 32 q; omega
theorem oneS_len (x : Str) : (oneS x).length = x.length := by
  unfold oneS; rw [List.length_map, Array.length_toList]; rfl
theorem deed_tx {d : Dd} (h : DeedOk d) : deedP (Txt.split (dTx d) " ") = some d := by
  rw [dTx_split h]
  obtain ⟨f, hf, ht⟩ := h
  obtain ⟨e1, e2⟩ := ths_tx ht
  show (match formOf d.1 with
    | some f => if (d.2.map thTx).length = f.length then (allS (List.zipWith thP (oneS f) (d.2.map thTx))).map fun ts => (d.1, ts) else none
    | none => none) = some d
  rw [hf]
  show (if (d.2.map thTx).length = f.length then (allS (List.zipWith thP (oneS f) (d.2.map thTx))).map fun ts => (d.1, ts) else none) = some d
  rw [if_pos (by rw [List.length_map, e2, oneS_len]), e1]; rfl
theorem dTx_ok {d : Dd} (h : DeedOk d) : SOk (dTx d) ∧ (dTx d).length ≤ 200 := by
  obtain ⟨f, hf, ht⟩ := h
  obtain ⟨w1, w2, w3, w4, w5, w6, _⟩ := word_ch hf
  have tl := (ths_tx ht).2
  rw [oneS_len] at tl
  have hl : (dTx d).length ≤ 200 := by
    have e := TL.join_eq (Str.ofString " ") (d.1 :: d.2.map thTx)
    have h2 : (Str.ofString " ").length = 1 := by decide +kernel
    have : ∀ ts : List Th, ts.length ≤ 2 → (∀ t ∈ ts, (thTx t).length ≤ 60) → (Txt.join " " (d.1 :: ts.map thTx)).length ≤ 200 := fun ts hl hb => by
      match ts, hl with
      | [], _ => show d.1.length ≤ 200; omega
      | [a], _ =>
        rw [TL.join_eq]
        have := hb a List.mem_cons_self
        show (d.1 ++ Str.ofString " " ++ thTx a).length ≤ 200
        simp only [str_app_len, h2]; omega
      | [a, b], _ =>
        rw [TL.join_eq]
        have := hb a List.mem_cons_self
        have := hb b (List.mem_cons_of_mem _ List.mem_cons_self)
        show (d.1 ++ Str.ofString " " ++ (thTx a ++ Str.ofString " " ++ thTx b)).length ≤ 200
        simp only [str_app_len, h2]; omega
    exact this d.2 (by omega) fun t htm => (ths_ch ht t htm).2
  refine ⟨sok_ch (by omega) fun c hc => ?_, hl⟩
  have sp : ∀ c ∈ chs (" " : Str), c = 32 := by decide +kernel
  rcases join_mem hc with hc | ⟨y, hy, hc⟩
  · have := sp c hc; omega
  · rcases List.mem_cons.mp hy with rfl | hy
    · have := w1 c hc; omega
    · obtain ⟨t, htm, rfl⟩ := List.mem_map.mp hy
      have := (ths_ch ht t htm).1 c hc; omega
end L3
set_option Elab.async false
set_option linter.all false
set_option maxRecDepth 100000
set_option maxHeartbeats 1000000
namespace L3
open PySem PySem.Spec PyProof.Rows L2 NS
local macro_rules | `(tactic| walk_at "w") => `(tactic| conv => whnf)
theorem strIn_digs (c : Nat) : strIn ⟨#[c]⟩ "0123456789" = digB c := by
  unfold strIn
  rw [PySem.StrLaws.found_one, Bool.eq_iff_iff, decide_eq_true_eq]
  show c ∈ [48, 49, 50, 51, 52, 53, 54, 55, 56, 57] ↔ _
  unfold digB
  simp
  omega
def optI : Option Int → D
  | some i => .int i
  | none => .non
def sp_number_in : SpD := fun ds M Q _ => ∃ x : Str, ds = [.str x] ∧ SOk x ∧ x.length ≤ 1000 ∧ Q (optI (numP x)) M
def t_number_in_1 : DS := (dRet (dUn rIntD (dVar 0)))
def t_number_in_2 : DS := (dSeq (dIfS (dAnd (dTest (dBin (rEqDD id) (dBin rIxD (dVar 1) (dC (.int 0))) (dC (.str "0")))) (dTest (dBin (rEqDD not) (dVar 0) (dC (.str "0"))))) (dRet (dC .non)) dNext)
    t_number_in_1)
def t_number_in : DS := (dSeq (dSet 1 (dIf (dTest (dBin (rEqDD id) (dSl (dVar 0) dNoPart (dPart (dC (.int 1)))) (dC (.str "-")))) (dSl (dVar 0) (dPart (dC (.int 1))) dNoPart) (dVar 0)))
    (dSeq (dIfS (dOr (dNot (dTest (dChain rLtI rLeI (dC (.int 0)) (dUn rLenD (dVar 1)) (dC (.int 30))))) (dNot (dTru (dUn rAllD (dLc (iTxt (dVar 1)) (.name 2) dYes (dBin (rInDD id) (dVar 2) (dC (.str "0123456789"))) [2]))))) (dRet (dC .non)) dNext)
    t_number_in_2))
theorem str_of {x : Str} {l : List Nat} (h : chs x = l) : x = ⟨l.toArray⟩ := by
  cases x with
  | mk cs => cases cs with
    | mk k => show (⟨⟨k⟩⟩ : Str) = ⟨l.toArray⟩; rw [← h]
theorem all_digs (l : List Nat) : ((l.map fun c => strIn ⟨#[c]⟩ "0123456789").all id) = l.all digB := by
  rw [List.all_map]
  congr 1
  funext c
  exact strIn_digs c
theorem r_number_in_a {x y : Str} (hy : chs y = figsOf (chs x)) (hyl : y.length ≤ 1000) {M : Mp} {Q : DK} (q : Q (optI (numP x)) M) : (dSeq (dIfS (dOr (dNot (dTest (dChain rLtI rLeI (dC (.int 0)) (dUn rLenD (dVar 1)) (dC (.int 30))))) (dNot (dTru (dUn rAllD (dLc (iTxt (dVar 1)) (.name 2) dYes (dBin (rInDD id) (dVar 2) (dC (.str "0123456789"))) [2]))))) (dRet (dC .non)) dNext)
    t_number_in_2) { nx := fun _ M' => Q .non M', rt := Q } [some (.str x), some (.str y), none] M := by
  have hl : (chs y).length = y.length := Array.length_toList
  have e0 : goodN x = (decide (0 < y.length) && (decide (y.length ≤ 30) && ((chs y).all digB && !((chs y).head? == some 48 && x != "0")))) := by
    unfold goodN; rw [← hy, hl]
  have fin : goodN x = false → Q .non M := fun h => by
    unfold numP at q; rw [if_neg (by rw [h]; exact Bool.false_ne_true)] at q; exact q
  walk_at "w"
  by_cases h0 : 0 < y.length ∧ y.length ≤ 30
  · obtain ⟨h0, h30⟩ := h0
    rw [show decide ((0 : Int) < (y.length : Nat)) = true from decide_eq_true (by omega)]
    walk_at "w"
    rw [show decide ((y.length : Int) ≤ 30) = true from decide_eq_true (by omega)]
    walk_at "w"
    refine lc_map (fun d => match d with
      | .str z => .bl (strIn z "0123456789")
      | _ => .non) (fun d hd K1 K2 h1 => ?_) ?_
    · obtain ⟨c, hc, rfl⟩ := List.mem_map.mp hd
      exact h1
    rw [show (signs y).map (fun d => match d with
      | .str z => D.bl (strIn z "0123456789")
      | _ => .non) = ((chs y).map fun c => strIn ⟨#[c]⟩ "0123456789").map D.bl by unfold signs; rw [List.map_map, List.map_map]; rfl]
    walk_at "w"
    rw [asBls_map]
    walk_at "w"
    rw [all_digs]
    cases hd : (chs y).all digB with
    | false =>
      walk_at "w"
      exact fin (by rw [e0, hd, Bool.false_and, Bool.and_false, Bool.and_false])
    | true =>
      walk_at "w"
      cases hc : chs y with
      | nil => rw [hc] at hl; exact absurd hl (by show ¬ (0 = y.length); omega)
      | cons c r =>
        walk_at "w"
        rw [show y.cps.toList = c :: r from hc, atI_0]
        walk_at "w"
        refine ⟨⟨rfl, rfl⟩, ?_⟩
        have go : goodN x = true → (t_number_in_1 { nx := fun _ M' => Q .non M', rt := Q } [some (.str x), some (.str y), none] M) := fun hg => by
          obtain ⟨i, ei, li⟩ := num_some hg
          have q := q
          unfold numP at q
          rw [if_pos hg, ei] at q
          walk_at "w"
          rw [ei]
          exact ⟨by omega, q⟩
        have eg : goodN x = !(some c == some 48 && x != "0") := by
          rw [e0, decide_eq_true h0, decide_eq_true h30, hd, hc]; rfl
        rw [show id (eqD (resD M (sgn c)) (resD M (.str "0"))) = (some c == some 48) by
          show ((⟨#[c]⟩ : Str) == "0") = (some c == some 48)
          rw [beqS, Bool.eq_iff_iff, decide_eq_true_eq, beq_iff_eq]
          exact ⟨fun e => by have := congrArg chs e; injection this with h; exact congrArg some h, fun e => by cases e; rfl⟩]
        cases c1 : (some c == some 48) with
        | false =>
          walk_at "w"
          exact go (by rw [eg, c1]; rfl)
        | true =>
          walk_at "w"
          refine ⟨⟨rfl, rfl⟩, ?_⟩
          rw [show not (eqD (resD M (.str x)) (resD M (.str "0"))) = (x != "0") from rfl]
          cases c2 : (x != "0") with
          | true =>
            walk_at "w"
            exact fin (by rw [eg, c1, c2]; rfl)
          | false =>
            walk_at "w"
            exact go (by rw [eg, c1, c2]; rfl)
  · have hg : goodN x = false := by
      rw [e0]
      by_cases h1 : 0 < y.length
      · have h2 : ¬ y.length ≤ 30 := fun h => h0 ⟨h1, h⟩
        rw [decide_eq_false h2, Bool.false_and, Bool.and_false]
      · rw [decide_eq_false h1, Bool.false_and]
    by_cases h1 : 0 < y.length
    · have h2 : ¬ y.length ≤ 30 := fun h => h0 ⟨h1, h⟩
      rw [show decide ((0 : Int) < (y.length : Nat)) = true from decide_eq_true (by omega)]
      walk_at "w"
      rw [show decide ((y.length : Int) ≤ 30) = false from decide_eq_false (by omega)]
      walk_at "w"
      exact fin hg
    · rw [show decide ((0 : Int) < (y.length : Nat)) = false from decide_eq_false (by omega)]
      walk_at "w"
      exact fin hg
theorem r_number_in (ds : List D) (M : Mp) (Q : DK) (E : DX) (hl : ds.length = 1) (h : sp_number_in ds M Q E) : t_number_in { nx := fun _ M' => Q .non M', rt := Q } (startD ["word", "figures", "sign"] ds) M := by
  obtain ⟨x, rfl, hx, hxl, q⟩ := h
  walk_at "w"
  refine ⟨⟨rfl, rfl⟩, ?_⟩
  have h1 : chs (cutS x none (some 1)) = (chs x).take 1 := cutS_to x 1
  have h2 : chs (cutS x (some 1) none) = (chs x).drop 1 := cutS_from x 1
  have hl : (chs x).length = x.length := Array.length_toList
  rw [show id (eqD (resD M (.str (cutS x none (some 1)))) (resD M (.str "-"))) = ((chs x).head? == some 45) by
    show (cutS x none (some 1) == "-") = _
    rw [beqS, Bool.eq_iff_iff, decide_eq_true_eq, beq_iff_eq]
    cases e : chs x with
    | nil =>
      rw [e] at h1
      exact ⟨(fun z => by rw [z] at h1; cases h1), (fun z => nomatch z)⟩
    | cons c r =>
      rw [e] at h1
      have h1 : chs (cutS x none (some 1)) = [c] := h1
      refine ⟨fun z => ?_, fun z => ?_⟩
      · rw [z] at h1
        have h1 : [45] = [c] := h1
        injection h1 with h1; rw [← h1]; rfl
      · have z : some c = some 45 := z
        cases z
        exact str_of h1]
  cases c1 : ((chs x).head? == some 45) with
  | true =>
    walk_at "w"
    refine r_number_in_a (x := x) ?_ ?_ q
    · rw [h2]
      cases e : chs x with
      | nil => rw [e] at c1; cases c1
      | cons c r =>
        rw [e] at c1
        have c1 : (some c == some 45) = true := c1
        rw [beq_iff_eq] at c1
        cases c1; rfl
    · have := cutS_length x (some 1) none; omega
  | false =>
    walk_at "w"
    refine r_number_in_a (x := x) ?_ hxl q
    cases e : chs x with
    | nil => rfl
    | cons c r =>
      rw [e] at c1
      have c1 : (some c == some 45) = false := c1
      show c :: r = if c = 45 then r else c :: r
      rw [if_neg (fun z => by rw [z] at c1; cases c1)]
def optT : Option Th → D
  | some t => thgD t
  | none => .non
def sp_thing_in : SpD := fun ds M Q _ => ∃ k x : Str, ds = [.str k, .str x] ∧ SOk x ∧ x.length ≤ 500 ∧ Q (optT (thP k x)) M
def t_thing_in_1 : DS := (dSeq (dSet 2 (dIf (dTest (dBin (rEqDD id) (dVar 0) (dC (.str "n")))) (dCall sp_is_name (dCons (dVar 1) dNil)) (dCall sp_is_sign (dCons (dVar 1) dNil))))
    (dRet (dIf (dTru (dVar 2)) (dVar 1) (dC .non))))
def t_thing_in_2 : DS := (dSeq (dIfS (dTest (dBin (rEqDD id) (dVar 0) (dC (.str "b")))) (dRet (dCall sp_number_in (dCons (dVar 1) dNil))) dNext)
    t_thing_in_1)
def t_thing_in : DS := (dSeq (dIfS (dTest (dBin (rEqDD id) (dVar 0) (dC (.str "w")))) (dRet (dCall sp_writer_in (dCons (dVar 1) dNil))) dNext)
    t_thing_in_2)
theorem r_thing_in (ds : List D) (M : Mp) (Q : DK) (E : DX) (hl : ds.length = 2) (h : sp_thing_in ds M Q E) : t_thing_in { nx := fun _ M' => Q .non M', rt := Q } (startD ["kind", "word", "good"] ds) M := by
  obtain ⟨k, x, rfl, hx, hxl, q⟩ := h
  unfold thP at q
  have ek : ∀ z : Str, id (eqD (resD M (.str k)) (resD M (.str z))) = decide (k = z) := fun z => by
    show (k == z) = _
    rw [beqS]
  walk_at "w"
  refine ⟨⟨rfl, rfl⟩, ?_⟩
  rw [ek]
  by_cases c1 : k = "w"
  · rw [if_pos c1] at q
    rw [decide_eq_true c1]
    walk_at "w"
    refine ⟨x, rfl, hx, hxl, ?_⟩
    cases e : wrP (Txt.split x "/") with
    | none => rw [e] at q; exact q
    | some w => rw [e] at q; exact q
  rw [if_neg c1] at q
  rw [decide_eq_false c1]
  walk_at "w"
  refine ⟨⟨rfl, rfl⟩, ?_⟩
  rw [ek]
  by_cases c2 : k = "b"
  · rw [if_pos c2] at q
    rw [decide_eq_true c2]
    walk_at "w"
    refine ⟨x, rfl, hx, by omega, ?_⟩
    cases e : numP x with
    | none => rw [e] at q; exact q
    | some w => rw [e] at q; exact q
  rw [if_neg c2] at q
  rw [decide_eq_false c2]
  walk_at "w"
  refine ⟨⟨rfl, rfl⟩, ?_⟩
  rw [ek]
  by_cases c3 : k = "n"
  · rw [if_pos c3] at q
    rw [decide_eq_true c3]
    walk_at "w"
    refine ⟨x, rfl, ?_⟩
    cases c : isName x with
    | true => rw [c, if_pos rfl] at q; walk_at "w"; exact q
    | false => rw [c, if_neg Bool.false_ne_true] at q; walk_at "w"; exact q
  · rw [if_neg c3] at q
    rw [decide_eq_false c3]
    walk_at "w"
    refine ⟨x, rfl, ?_⟩
    cases c : isSign x with
    | true => rw [c, if_pos rfl] at q; walk_at "w"; exact q
    | false => rw [c, if_neg Bool.false_ne_true] at q; walk_at "w"; exact q
def optDd : Option Dd → D
  | some d => dD d
  | none => .non
theorem none_inT (xs : List (Option Th)) : ((xs.map optT).any fun z => eqD z .non) = decide (allS xs = none) := by
  induction xs with
  | nil => rfl
  | cons o xs ih =>
    cases o with
    | none => rfl
    | some a =>
      rw [List.map_cons, List.any_cons, ih]
      have e1 : eqD (optT (some a)) .non = false := by cases a <;> rfl
      rw [e1, Bool.false_or]
      show _ = decide ((allS xs).map (fun l => a :: l) = none)
      cases allS xs with
      | none => rfl
      | some l => rfl
theorem all_someT : ∀ {xs : List (Option Th)} {as : List Th}, allS xs = some as → xs.map optT = as.map thgD ∧ as.length = xs.length
  | [], as, h => by cases h; exact ⟨rfl, rfl⟩
  | none :: xs, as, h => by cases h
  | some a :: xs, as, h => by
    have h : (allS xs).map (fun l => a :: l) = some as := h
    obtain ⟨l, hl, rfl⟩ := Option.map_eq_some_iff.mp h
    obtain ⟨i1, i2⟩ := all_someT hl
    exact ⟨by rw [List.map_cons, List.map_cons, i1]; rfl, by rw [List.length_cons, List.length_cons, i2]⟩
theorem thg_le (t : Th) : D.le 30 (thgD t) = true := by
  cases t with
  | wr w => exact le_mono (by omega) (wr_le w)
  | nm x => rfl
  | num i => rfl
theorem optT_les (xs : List (Option Th)) : D.les 58 (xs.map optT) = true := les_of fun d hd => by
  obtain ⟨o, _, rfl⟩ := List.mem_map.mp hd
  cases o with
  | none => rfl
  | some t => exact le_mono (by omega) (thg_le t)
def zipF (d : D) : D := match d with
  | .tup [.str k, .str y] => optT (thP k y)
  | _ => .non
theorem zip_map : ∀ (f : List Nat) (rows : List Str), (List.zipWith (fun a b => D.tup [a, b]) (f.map sgn) (rows.map D.str)).map zipF = (List.zipWith thP (f.map fun c => (⟨#[c]⟩ : Str)) rows).map optT
  | [], _ => by simp
  | _ :: _, [] => by simp
  | c :: f, y :: rows => by
    simp only [List.map_cons, List.zipWith_cons_cons, zip_map f rows]; rfl
def sp_deed_in : SpD := fun ds M Q _ => ∃ x : Str, ds = [.str x] ∧ SOk x ∧ x.length ≤ 500 ∧ Q (optDd (deedP (Txt.split x " "))) M
def t_deed_in_1 : DS := (dSeq (dSet 2 (dLc (iZipTx (dCons (dVar 1) (dCons (dVar 4) dNil))) (.tup [(.name 5), (.name 6)]) dYes (dCall sp_thing_in (dCons (dVar 5) (dCons (dVar 6) dNil))) [5, 6]))
    (dRet (dIf (dTest (dBin (rInDD id) (dC .non) (dVar 2))) (dC .non) (dBin rAddD (dTup (dCons (dVar 3) dNil)) (dUn rTupleD (dVar 2))))))
def t_deed_in : DS := (dSeq (dStar 3 4 (dSplit (dVar 0) (dC (.str " "))))
    (dSeq (dSet 1 (dGetT tb_FORMS (dVar 3) (dC .non)))
    (dSeq (dIfS (dOr (dTest (dBin (rIsD id) (dVar 1) (dC .non))) (dTest (dBin (rEqDD not) (dUn rLenD (dVar 4)) (dUn rLenD (dVar 1))))) (dRet (dC .non)) dNext)
    t_deed_in_1)))
theorem r_deed_in (ds : List D) (M : Mp) (Q : DK) (E : DX) (hl : ds.length = 1) (h : sp_deed_in ds M Q E) : t_deed_in { nx := fun _ M' => Q .non M', rt := Q } (startD ["text", "form", "things", "word", "rows", "kind", "row"] ds) M := by
  obtain ⟨x, rfl, hx, hxl, q⟩ := h
  have sp := split_parts (x := x) (sep := " ")
  have sok := parts_sok (sep := " ") hx
  have pos := PyProof.Rows.split_pos x " "
  walk_at "w"
  refine ⟨by decide +kernel, by rw [sizeLine_eq]; omega, sok, ?_⟩
  cases e : Txt.split x " " with
  | nil => rw [e] at pos; exact absurd pos (by decide)
  | cons w rows =>
    rw [e] at q sp sok
    have q : Q (optDd (match formOf w with
      | some f => if rows.length = f.length then (allS (List.zipWith thP (oneS f) rows)).map fun ts => (w, ts) else none
      | none => none)) M := q
    walk_at "w"
    cases hf : lookS tb_FORMS w with
    | none =>
      have ef : formOf w = none := by unfold formOf; rw [hf]
      rw [ef] at q
      walk_at "w"
      exact q
    | some d =>
      obtain ⟨f, rfl, _, _⟩ := forms_in _ hf
      have ef : formOf w = some f := by unfold formOf; rw [hf]
      obtain ⟨_, _, f2, _, fok, _, _⟩ := word_ch ef
      rw [ef] at q
      have q : Q (optDd (if rows.length = f.length then (allS (List.zipWith thP (oneS f) rows)).map fun ts => (w, ts) else none)) M := q
      walk_at "w"
      refine ⟨⟨rfl, rfl⟩, ?_⟩
      rw [show not (eqD (resD M (.int ((rows.map D.str).length : Nat))) (resD M (.int (f.length : Nat)))) = !decide (rows.length = f.length) by
        rw [eqD_len, List.length_map]]
      by_cases c : rows.length = f.length
      · rw [if_pos c] at q
        rw [decide_eq_true c]
        walk_at "w"
        refine lc_map zipF (fun d hd K1 K2 h1 => ?_) ?_
        · obtain ⟨j, hj⟩ := List.getElem?_of_mem hd
          obtain ⟨a, b, ha, hb, rfl⟩ := zip_at hj
          have ha := List.mem_of_getElem? ha
          have hb := List.mem_of_getElem? hb
          obtain ⟨k, _, rfl⟩ := List.mem_map.mp ha
          obtain ⟨y, hy, rfl⟩ := List.mem_map.mp hb
          have hy' := List.mem_cons_of_mem w hy
          walk_at "w"
          exact ⟨⟨#[k]⟩, y, rfl, sok y hy', by have := (sp.2 y hy').1; omega, h1⟩
        rw [show (List.zipWith (fun a b => D.tup [a, b]) (signs f) (rows.map D.str)).map zipF = (List.zipWith thP (oneS f) rows).map optT from zip_map _ _]
        generalize hz : List.zipWith thP (oneS f) rows = zs at q ⊢
        walk_at "w"
        refine ⟨⟨rfl, optT_les zs⟩, ?_⟩
        rw [show id ((zs.map optT).any fun z => eqD z .non) = decide (allS zs = none) from none_inT zs]
        cases ea : allS zs with
        | none =>
          rw [ea] at q
          walk_at "w"
          exact q
        | some ts =>
          rw [ea] at q
          obtain ⟨e1, e2⟩ := all_someT ea
          walk_at "w"
          have zl : zs.length ≤ 2 := by rw [← hz, List.length_zipWith, oneS_len]; omega
          refine ⟨by rw [sizeLine_eq, List.length_map]; show 1 + _ ≤ _; omega, ?_⟩
          rw [e1]
          exact q
      · rw [if_neg c] at q
        rw [decide_eq_false c]
        walk_at "w"
        exact q
theorem log_num {i : Int} (h : i.natAbs < 10 ^ 30) : i.natAbs.log2 < 1920 := by
  by_cases h0 : i.natAbs = 0
  · rw [h0]; decide
  · exact (Nat.log2_lt h0).mpr (Nat.lt_trans h (by decide))
theorem join_few {d : Dd} (h : DeedOk d) : ((d.1 :: d.2.map thTx).map (·.length)).sum + (d.1 :: d.2.map thTx).length * (Str.ofString " ").length ≤ 16777216 := by
  obtain ⟨f, hf, ht⟩ := h
  obtain ⟨_, w2, w3, _, _, _, _⟩ := word_ch hf
  have tl := (ths_tx ht).2
  rw [oneS_len] at tl
  have h2 : (Str.ofString " ").length = 1 := by decide +kernel
  have hb := fun t htm => (ths_ch ht t htm).2
  have : ∀ ts : List Th, (∀ t ∈ ts, (thTx t).length ≤ 60) → ((ts.map thTx).map (·.length)).sum ≤ 60 * ts.length := fun ts => by
    induction ts with
    | nil => intro _; exact Nat.le_refl _
    | cons t ts ih =>
      intro hb
      have h1 := hb t List.mem_cons_self
      have h2 := ih fun u hu => hb u (List.mem_cons_of_mem _ hu)
      rw [List.map_cons, List.map_cons, List.sum_cons, List.length_cons]
      omega
  have := this d.2 hb
  rw [List.map_cons, List.sum_cons, List.length_cons, List.length_map, h2]
  omega
end L3
set_option Elab.async false
set_option linter.all false
set_option maxRecDepth 100000
set_option maxHeartbeats 1000000
namespace L3
open PySem PySem.Spec PyProof.Rows L2 NS
local macro_rules | `(tactic| walk_at "w") => `(tactic| conv => whnf)
def sp_law_farB : SpD := fun ds M Q _ => ∃ p b, ds = [.ref p] ∧ M p = some (.lst (Bag.l b)) ∧ b.Ok ∧ ∀ (k : Int) b', Bag.Ok b' → k.natAbs < 10 ^ 30 → Q (.int k) (mupd M p (.lst b'.l))
def t_law_farB : DS := (dSeq (dPar 2 3 (dCons (dBin rAddD (dCall sp_law_pull (dCons (dVar 0) (dCons (dC (.int 9)) dNil))) (dC (.int 4))) (dCons (dBin rAddD (dCall sp_law_pull (dCons (dVar 0) (dCons (dBin rPowI (dC (.int 10)) (dC (.int 9))) dNil))) (dC (.int 4))) dNil)))
    (dSeq (dSet 1 (dCall sp_law_of (dCons (dVar 0) (dCons (dLst (dCons (dVar 2) (dCons (dVar 3) (dCons (dBin rAddD (dVar 3) (dBin rPowI (dC (.int 10)) (dC (.int 20)))) dNil)))) dNil))))
    (dRet (dCall sp_law_of (dCons (dVar 0) (dCons (dLst (dCons (dVar 1) (dCons (dUn rNegI (dC (.int 1))) (dCons (dBin rSubI (dC (.int 0)) (dVar 1)) dNil)))) dNil))))))
theorem r_law_farB (ds : List D) (M : Mp) (Q : DK) (E : DX) (hl : ds.length = 1) (h : sp_law_farB ds M Q E) : t_law_farB { nx := fun _ M' => Q .non M', rt := Q } (startD ["_law_bag_here", "_law_figure", "_law_near", "_law_wide"] ds) M := by
  obtain ⟨p, b, rfl, hM, hb, q⟩ := h
  walk_at "w"
  refine ⟨p, b, 9, rfl, hM, hb, by decide, by decide, fun r1 b1 hb1 r10 r11 => ?_⟩
  walk_at "w"
  refine ⟨⟨by decide, by decide, by decide⟩, ?_⟩
  walk_at "w"
  refine ⟨p, b1, 10 ^ 9, rfl, mupd_same, hb1, by decide, by decide, fun r2 b2 hb2 r20 r21 => ?_⟩
  rw [mupd_mupd]
  walk_at "w"
  refine ⟨⟨by decide, by decide, by decide⟩, ?_⟩
  walk_at "w"
  refine ⟨p, b2, _, [.int (r1 + 4), .int (r2 + 4), .int (r2 + 4 + 10 ^ 20)], rfl, mupd_same, hb2, by simp, by simp, .inl ⟨rfl, fun e => by cases e⟩, fun y b3 hb3 hy => ?_⟩
  obtain ⟨k, rfl, k0, k1⟩ : ∃ k : Int, y = .int k ∧ 0 ≤ k ∧ k < 10 ^ 21 := by
    simp only [List.mem_cons, List.not_mem_nil, or_false] at hy
    rcases hy with rfl | rfl | rfl
    · exact ⟨_, rfl, by omega, by omega⟩
    · exact ⟨_, rfl, by omega, by omega⟩
    · exact ⟨_, rfl, by omega, by omega⟩
  rw [mupd_mupd]
  walk_at "w"
  refine ⟨p, b3, _, [.int k, .int (-1), .int (0 - k)], rfl, mupd_same, hb3, by simp, by simp, .inl ⟨rfl, fun e => by cases e⟩, fun y b4 hb4 hy => ?_⟩
  obtain ⟨j, rfl, hj⟩ : ∃ j : Int, y = .int j ∧ j.natAbs < 10 ^ 30 := by
    simp only [List.mem_cons, List.not_mem_nil, or_false] at hy
    rcases hy with rfl | rfl | rfl
    · exact ⟨_, rfl, by omega⟩
    · exact ⟨_, rfl, by decide⟩
    · exact ⟨_, rfl, by omega⟩
  rw [mupd_mupd]
  exact q j b4 hb4 hj
theorem form_at {w f : Str} (h : lookS tb_FORMS w = some (.str f)) : formOf w = some f := by unfold formOf; rw [h]
def everyD (w : Wr) (a b x : Str) (i : Int) : List Dd := [("come", [.wr w]), ("leave", [.nm b]), ("change", [.wr w]), ("sign", [.nm x]), ("said", [.num i, .nm a]), ("denied", [.num i, .nm b]), ("unsay", [.num i]), ("watch", [.num i]), ("unwatch", [.num i])]
theorem every_ok {w : Wr} {a b x : Str} {i : Int} (hw : WrOk w) (ha : isName a = true) (hb : isName b = true) (hx : isSign x = true) (hi : i.natAbs < 10 ^ 30) : ∀ d ∈ everyD w a b x i, DeedOk d := fun d hd => by
  unfold everyD at hd
  simp only [List.mem_cons, List.not_mem_nil, or_false] at hd
  rcases hd with rfl | rfl | rfl | rfl | rfl | rfl | rfl | rfl | rfl
  · exact ⟨"w", form_at rfl, ⟨rfl, hw⟩, True.intro⟩
  · exact ⟨"n", form_at rfl, .inl ⟨rfl, hb⟩, True.intro⟩
  · exact ⟨"w", form_at rfl, ⟨rfl, hw⟩, True.intro⟩
  · exact ⟨"s", form_at rfl, .inr ⟨rfl, hx⟩, True.intro⟩
  · exact ⟨"bn", form_at rfl, ⟨rfl, hi⟩, .inl ⟨rfl, ha⟩, True.intro⟩
  · exact ⟨"bn", form_at rfl, ⟨rfl, hi⟩, .inl ⟨rfl, hb⟩, True.intro⟩
  · exact ⟨"b", form_at rfl, ⟨rfl, hi⟩, True.intro⟩
  · exact ⟨"b", form_at rfl, ⟨rfl, hi⟩, True.intro⟩
  · exact ⟨"b", form_at rfl, ⟨rfl, hi⟩, True.intro⟩
def sp_law_every_deed : SpD := fun ds M Q _ => ∃ p b, ∃ pool : List Str, ∃ cs : List Nat, ds = [.ref p, .lst (pool.map D.str), .lst (cs.map sgn)] ∧ M p = some (.lst (Bag.l b)) ∧ b.Ok ∧ 0 < pool.length ∧ pool.length ≤ 26 ∧ (∀ x ∈ pool, isName x = true) ∧ SgOk cs ∧ 0 < cs.length ∧ cs.length ≤ 26 ∧
  ∀ b' w a b2 x i, Bag.Ok b' → WrOk w → isName a = true → isName b2 = true → isSign x = true → i.natAbs < 10 ^ 30 → Q (.lst ((everyD w a b2 x i).map dD)) (mupd M p (.lst b'.l))
def t_law_every_deed : DS := (dSeq (dPar 6 7 (dCons (dCall sp_law_of (dCons (dVar 0) (dCons (dVar 1) dNil))) (dCons (dCall sp_law_of (dCons (dVar 0) (dCons (dVar 1) dNil))) dNil)))
    (dSeq (dSet 3 (dCall sp_law_of (dCons (dVar 0) (dCons (dLst (dCons (dC (.int 0)) (dCons (dC (.int 7)) (dCons (dC (.int 23)) (dCons (dCall sp_law_farB (dCons (dVar 0) dNil)) (dCons (dBin rSubI (dBin rSubI (dBin rPowI (dC (.int 10)) (dC (.int 30))) (dC (.int 1))) (dCall sp_law_pull (dCons (dVar 0) (dCons (dBin rPowI (dC (.int 10)) (dC (.int 9))) dNil)))) dNil)))))) dNil))))
    (dSeq (dSet 4 (dCall sp_law_writer (dCons (dVar 0) (dCons (dVar 6) (dCons (dBin rAddD (dC (.int 1)) (dCall sp_law_pull (dCons (dVar 0) (dCons (dC (.int 3)) dNil)))) (dCons (dVar 2) (dCons (dCall sp_law_of (dCons (dVar 0) (dCons (dLst (dCons (dC (.int 0)) (dCons (dC (.int 3)) (dCons (dC (.int 8)) dNil)))) dNil))) dNil)))))))
    (dSeq (dSet 5 (dLst (dCons (dTup (dCons (dC (.str "come")) (dCons (dVar 4) dNil))) (dCons (dTup (dCons (dC (.str "leave")) (dCons (dVar 7) dNil))) (dCons (dTup (dCons (dC (.str "change")) (dCons (dVar 4) dNil))) (dCons (dTup (dCons (dC (.str "sign")) (dCons (dCall sp_law_of (dCons (dVar 0) (dCons (dVar 2) dNil))) dNil))) dNil))))))
    (dSeq (dSet 5 (dBin rAddD (dVar 5) (dLst (dCons (dTup (dCons (dC (.str "said")) (dCons (dVar 3) (dCons (dVar 6) dNil)))) (dCons (dTup (dCons (dC (.str "denied")) (dCons (dVar 3) (dCons (dVar 7) dNil)))) (dCons (dTup (dCons (dC (.str "unsay")) (dCons (dVar 3) dNil))) dNil))))))
    (dRet (dBin rAddD (dVar 5) (dLst (dCons (dTup (dCons (dC (.str "watch")) (dCons (dVar 3) dNil))) (dCons (dTup (dCons (dC (.str "unwatch")) (dCons (dVar 3) dNil))) dNil))))))))))
theorem r_law_every_deed (ds : List D) (M : Mp) (Q : DK) (E : DX) (hl : ds.length = 3) (h : sp_law_every_deed ds M Q E) : t_law_every_deed { nx := fun _ M' => Q .non M', rt := Q } (startD ["_law_bag_here", "_law_pool", "_law_letters_here", "_law_figure", "_law_writer_here", "_law_found", "_law_a", "_law_b"] ds) M := by
  obtain ⟨p, b, pool, cs, rfl, hM, hb, p0, p1, hn, hcs, c0, c1, q⟩ := h
  walk_at "w"
  refine ⟨p, b, _, pool.map D.str, rfl, hM, hb, by rw [List.length_map]; omega, by rw [List.length_map]; omega, .inl ⟨rfl, fun e => by cases e⟩, fun y b1 hb1 hy => ?_⟩
  obtain ⟨a, ha, rfl⟩ := List.mem_map.mp hy
  walk_at "w"
  refine ⟨p, b1, _, pool.map D.str, rfl, mupd_same, hb1, by rw [List.length_map]; omega, by rw [List.length_map]; omega, .inl ⟨rfl, fun e => by cases e⟩, fun y b2 hb2 hy => ?_⟩
  obtain ⟨c, hc, rfl⟩ := List.mem_map.mp hy
  rw [mupd_mupd]
  walk_at "w"
  refine ⟨p, b2, rfl, mupd_same, hb2, fun k b3 hb3 hk => ?_⟩
  rw [mupd_mupd]
  walk_at "w"
  refine ⟨⟨by decide, by decide, by decide⟩, ?_⟩
  walk_at "w"
  refine ⟨⟨by decide, by decide, by decide⟩, ?_⟩
  walk_at "w"
  refine ⟨p, b3, 10 ^ 9, rfl, mupd_same, hb3, by decide, by decide, fun r b4 hb4 r0 r1 => ?_⟩
  rw [mupd_mupd]
  walk_at "w"
  refine ⟨p, b4, _, [.int 0, .int 7, .int 23, .int k, .int (10 ^ 30 - 1 - r)], rfl, mupd_same, hb4, by simp, by simp, .inl ⟨rfl, fun e => by cases e⟩, fun y b5 hb5 hy => ?_⟩
  obtain ⟨i, rfl, hi⟩ : ∃ i : Int, y = .int i ∧ i.natAbs < 10 ^ 30 := by
    simp only [List.mem_cons, List.not_mem_nil, or_false] at hy
    rcases hy with rfl | rfl | rfl | rfl | rfl
    · exact ⟨_, rfl, by decide⟩
    · exact ⟨_, rfl, by decide⟩
    · exact ⟨_, rfl, by decide⟩
    · exact ⟨_, rfl, hk⟩
    · exact ⟨_, rfl, by omega⟩
  rw [mupd_mupd]
  walk_at "w"
  refine ⟨p, b5, 3, rfl, mupd_same, hb5, by decide, by decide, fun r2 b6 hb6 r20 r21 => ?_⟩
  rw [mupd_mupd]
  walk_at "w"
  refine ⟨p, b6, _, [.int 0, .int 3, .int 8], rfl, mupd_same, hb6, by simp, by simp, .inl ⟨rfl, fun e => by cases e⟩, fun y b7 hb7 hy => ?_⟩
  obtain ⟨th, rfl⟩ : ∃ th, y = .int th := by
    simp only [List.mem_cons, List.not_mem_nil, or_false] at hy
    rcases hy with rfl | rfl | rfl <;> exact ⟨_, rfl⟩
  rw [mupd_mupd]
  walk_at "w"
  refine ⟨p, b7, a, 1 + r2, cs, th, rfl, mupd_same, hb7, by omega, by omega, hcs, fun w b8 hb8 dr => ?_⟩
  have hw := dr.ok (hn a ha) (by omega) hcs
  rw [mupd_mupd]
  walk_at "w"
  refine ⟨p, b8, _, cs.map sgn, rfl, mupd_same, hb8, by rw [List.length_map]; omega, by rw [List.length_map]; omega, .inl ⟨rfl, fun e => by cases e⟩, fun y b9 hb9 hy => ?_⟩
  obtain ⟨z, hz, rfl⟩ := List.mem_map.mp hy
  rw [mupd_mupd]
  walk_at "w"
  refine ⟨by rw [sizeLine_eq]; show 4 + 3 ≤ _; omega, ?_⟩
  walk_at "w"
  refine ⟨by rw [sizeLine_eq]; show 7 + 2 ≤ _; omega, ?_⟩
  exact q b9 w a c ⟨#[z]⟩ i hb9 hw (hn a ha) (hn c hc) (by rw [isSign_one]; exact hcs.let_ z hz) hi
def sp_law_deed_text : SpD := fun ds M Q _ => ∃ d, DeedOk d ∧ ds = [dD d] ∧ Q (.str (dTx d)) M
def t_law_deed_text_1 : DS := (dRet (dJoin (dC (.str " ")) (dLc (iTpl (dVar 0)) (.name 1) dYes (dUn rStrD (dVar 1)) [1])))
def t_law_deed_text : DS := (dSeq (dIfS (dTest (dBin (rInDD id) (dBin rIxD (dVar 0) (dC (.int 0))) (dTup (dCons (dC (.str "come")) (dCons (dC (.str "change")) dNil))))) (dRet (dBin rAddD (dBin rAddD (dBin rIxD (dVar 0) (dC (.int 0))) (dC (.str " "))) (dCall sp_law_writer_text (dCons (dBin rIxD (dVar 0) (dC (.int 1))) dNil)))) dNext)
    t_law_deed_text_1)
theorem form_w {w : Str} (h : w = "come" ∨ w = "change") : formOf w = some "w" := by rcases h with rfl | rfl <;> exact form_at rfl
theorem form_notw {w f : Str} (h : formOf w = some f) (hn : ¬ (w = "come" ∨ w = "change")) : f ∈ (["n", "s", "bn", "b"] : List Str) := by
  obtain ⟨_, _, _, _, _, _, hl⟩ := word_ch h
  obtain ⟨g, e, _, hw⟩ := forms_in _ hl
  cases e
  simp only [List.mem_cons, List.not_mem_nil, or_false] at hw
  rcases hw with rfl | rfl | rfl | rfl | rfl | rfl | rfl | rfl | rfl
  · exact absurd (.inl rfl) hn
  · cases hl; simp
  · exact absurd (.inr rfl) hn
  · cases hl; simp
  · cases hl; simp
  · cases hl; simp
  · cases hl; simp
  · cases hl; simp
  · cases hl; simp
theorem ths_notw : ∀ {ks : List Str} {ts : List Th}, ThsOk ks ts → (∀ k ∈ ks, k ≠ "w") → ∀ t ∈ ts, (∃ x, t = .nm x) ∨ ∃ i, t = .num i ∧ i.natAbs < 10 ^ 30
  | [], [], _, _, t, ht => nomatch ht
  | k :: ks, u :: ts, ⟨h1, h2⟩, hk, t, ht => by
    rcases List.mem_cons.mp ht with rfl | ht
    · cases t with
      | wr w => exact absurd h1.1 (hk k List.mem_cons_self)
      | nm x => exact .inl ⟨x, rfl⟩
      | num i => exact .inr ⟨i, rfl, h1.2⟩
    · exact ths_notw h2 (fun k hk' => hk k (List.mem_cons_of_mem _ hk')) t ht
  | [], _ :: _, h, _, _, _ => h.elim
  | _ :: _, [], h, _, _, _ => h.elim
theorem r_law_deed_text (ds : List D) (M : Mp) (Q : DK) (E : DX) (hl : ds.length = 1) (h : sp_law_deed_text ds M Q E) : t_law_deed_text { nx := fun _ M' => Q .non M', rt := Q } (startD ["_law_deed", "_law_thing"] ds) M := by
  obtain ⟨d, hd, rfl, q⟩ := h
  have jf := join_few hd
  obtain ⟨f, hf, ht⟩ := hd
  obtain ⟨_, w2, w3, w4, _, _, _⟩ := word_ch hf
  obtain ⟨w, ts⟩ := d
  walk_at "w"
  rw [atI_0]
  walk_at "w"
  refine ⟨⟨rfl, rfl⟩, ?_⟩
  rw [show id (([D.str "come", D.str "change"]).any fun z => eqD z (.str w)) = decide (w = "come" ∨ w = "change") by
    show ((("come" : Str) == w) || ((("change" : Str) == w) || false)) = _
    rw [beqS, beqS, Bool.or_false, Bool.eq_iff_iff, Bool.or_eq_true, decide_eq_true_eq, decide_eq_true_eq, decide_eq_true_eq]
    exact ⟨fun h => h.elim (fun e => .inl e.symm) (fun e => .inr e.symm), fun h => h.elim (fun e => .inl e.symm) (fun e => .inr e.symm)⟩]
  by_cases c : w = "come" ∨ w = "change"
  · rw [decide_eq_true c]
    have ef := form_w c
    rw [show formOf w = some f from hf] at ef
    cases ef
    match ts, ht with
    | [.wr v], ⟨⟨_, hv⟩, _⟩ =>
      have h2 : (Str.ofString " ").length = 1 := by decide +kernel
      have lv := wrTx_len hv
      have w2 : w.length ≤ 7 := w2
      walk_at "w"
      refine ⟨by rw [h2, sizeLine_eq]; omega, ?_⟩
      walk_at "w"
      refine ⟨v, hv, rfl, ?_⟩
      walk_at "w"
      refine ⟨by simp only [str_app_len, h2]; rw [sizeLine_eq]; omega, ?_⟩
      have e : dTx (w, [.wr v]) = w ++ Str.ofString " " ++ wrTx v := by
        show Txt.join (Str.ofString " ") [w, wrTx v] = _
        rw [TL.join_eq]; rfl
      rw [e] at q
      exact q
    | [], h => exact h.elim
    | [.nm x], h => exact absurd h.1 (by rintro (⟨e, _⟩ | ⟨e, _⟩) <;> exact absurd e (by decide))
    | [.num i], h => exact absurd h.1.1 (by decide)
    | _ :: _ :: _, h => exact h.2.elim
  · rw [decide_eq_false c]
    have fm := form_notw hf c
    have kn : ∀ k ∈ oneS f, k ≠ "w" := by
      simp only [List.mem_cons, List.not_mem_nil, or_false] at fm
      rcases fm with rfl | rfl | rfl | rfl <;> decide
    have tn := ths_notw ht kn
    walk_at "w"
    refine lc_inv (fun i acc M' => M' = M ∧ acc = ((w :: ts.map thTx).take i).map D.str) ⟨rfl, rfl⟩ (fun i x acc M' K hx ⟨eM, ea⟩ hK => ?_) fun acc M' ⟨eM, ea⟩ => ?_
    · subst eM
      have nx : ∀ z : Str, (w :: ts.map thTx)[i]? = some z → K (acc ++ [.str z]) M' := fun z hz => hK _ _ ⟨rfl, by rw [ea, List.take_add_one, hz, List.map_append]; rfl⟩
      cases i with
      | zero =>
        cases hx
        exact nx w rfl
      | succ i =>
        have hx : (ts.map thgD)[i]? = some x := hx
        rw [List.getElem?_map] at hx
        obtain ⟨t, htm, rfl⟩ := Option.map_eq_some_iff.mp hx
        have n2 : (w :: ts.map thTx)[i + 1]? = some (thTx t) := by
          show (ts.map thTx)[i]? = _
          rw [List.getElem?_map, htm]; rfl
        rcases tn t (List.mem_of_getElem? htm) with ⟨z, rfl⟩ | ⟨j, rfl, hj⟩
        · exact nx _ n2
        · exact ⟨log_num hj, nx _ n2⟩
    · subst eM ea
      rw [show (D.str w :: ts.map thgD).length = (w :: ts.map thTx).length by rw [List.length_cons, List.length_cons, List.length_map, List.length_map], List.take_length]
      walk_at "w"
      rw [asStrs_map]
      exact ⟨jf, q⟩
end L3
set_option Elab.async false
set_option linter.all false
set_option maxRecDepth 100000
set_option maxHeartbeats 1000000
set_option Elab.async false
set_option linter.all false
set_option maxRecDepth 100000
set_option maxHeartbeats 1000000
set_option Elab.async false
set_option linter.all false
set_option maxRecDepth 100000
set_option maxHeartbeats 1000000
namespace L3
open PySem PySem.Spec PyProof.Rows L2
section
variable {X : Cx} {o i f : Expr} {to ti te : DE} {pos apos : Pos}
def dGetS (to ti te : DE) : DE := fun env M Q => to env M fun d M1 => (resK M1 d).isSome = true ∧ ti env M1 fun e M2 => te env M2 fun z M3 => match resK M3 d with
  | some (ks, ds) => (match keyD e with
    | some k => Q ((findK ks ds k).getD z) M3
    | none => False)
  | none => False
theorem pd_getS {k : Nat} (hr : Room k X.A) (ho : PDE X o to) (hi : PDE X i ti) (hf : PDE X f te) (m : M2 X o "get" apos i f pos := by exact ⟨rfl, rfl, rfl, rfl⟩) : PDE X (.Call (.Attribute o "get" apos) [i, f] [] pos) (dGetS to ti te) :=
  pe_imp (pe_dget2 (by have := hr.un; omega) ho hi hf m) fun σ H Q ⟨R, F, env, M, Qd, a, e, h, k⟩ => ⟨R, F, env, M, _, a, e, h, fun F1 H1 M1 d v s1 a1 r1 q1 => by
    obtain ⟨hs, q1⟩ := q1
    obtain ⟨⟨ks0, ds0⟩, h0⟩ := Option.isSome_iff_exists.mp hs
    obtain ⟨p, xs0, rfl, rd0, _, _⟩ := resK_at a1 r1 h0
    refine ⟨p, rfl, .inl ⟨_, rd0⟩, R, F1, env, M1, _, a1, e.mono s1, q1, fun F2 H2 M2 d2 v2 s2 a2 r2 q2 => ⟨R, F2, env, M2, _, a2, (e.mono s1).mono s2, q2, fun F3 H3 M3 d3 v3 s3 a3 r3 q3 => ?_⟩⟩
    cases hk : resK M3 d with
    | none => rw [hk] at q3; exact q3.elim
    | some kd =>
      obtain ⟨ks, ds⟩ := kd
      rw [hk] at q3
      cases hy : keyD d2 with
      | none =>
        have q3 : (match keyD d2 with | some k => Qd ((findK ks ds k).getD d3) M3 | none => False) := q3
        rw [hy] at q3; exact q3.elim
      | some j =>
        have q3 : (match keyD d2 with | some k => Qd ((findK ks ds k).getD d3) M3 | none => False) := q3
        rw [hy] at q3
        have q3 : Qd ((findK ks ds j).getD d3) M3 := q3
        obtain ⟨p2, o2, e2, g, g1, g2⟩ := resK_get a3 ((r1.mono s2).mono s3) (r2.mono s3) hk hy
        cases e2
        refine ⟨o2, g, ?_⟩
        cases hf : findK ks ds j with
        | none =>
          rw [hf] at q3
          rw [g2 hf]
          exact k F3 H3 M3 d3 v3 ((s1.trans s2).trans s3) a3 r3 q3
        | some w =>
          rw [hf] at q3
          obtain ⟨u, hu, ru⟩ := g1 w hf
          rw [hu]
          exact k F3 H3 M3 w u ((s1.trans s2).trans s3) a3 ru q3⟩
def mergeK (kvs more : List (L2.Key × V)) : List (L2.Key × V) := more.foldl (fun acc kv => putK acc kv.1 kv.2) kvs
theorem KV.merge : ∀ {more : List (L2.Key × V)} {ms : List (L2.Key × Value)} {kvs : List (L2.Key × V)} {vs : List (L2.Key × Value)}, KV kvs vs → KV more ms → KV (mergeK kvs more) (merged vs ms)
  | _, _, _, _, r, .nil => r
  | _, _, kvs, vs, r, .cons (a := p) (b := q) (l₁ := more) (l₂ := ms) ⟨h1, h2⟩ t => by
    show KV (mergeK (putK kvs p.1 p.2) more) (merged (stored vs q.1 q.2) ms)
    rw [h1]
    exact KV.merge (L2.KV.put r q.1 h2) t
theorem mergeK_len : ∀ (more kvs : List (L2.Key × V)), (mergeK kvs more).length ≤ kvs.length + more.length
  | [], kvs => Nat.le_refl _
  | p :: more, kvs => by
    have h1 := length_putK kvs p.1 p.2
    have h2 := mergeK_len more (putK kvs p.1 p.2)
    show (mergeK (putK kvs p.1 p.2) more).length ≤ _
    rw [List.length_cons]; omega
def rUpdate : V → List V → Hp → VK → Prop := fun x xs H Q => ∃ a b kvs more, x = .ref a ∧ xs = [.ref b] ∧ a ≠ b ∧ H a = some (.dK kvs) ∧ Rd H b (.dK more) ∧ kvs.length + more.length ≤ sizeLine ∧ Q .non (upd H a (.dK (mergeK kvs more)))
theorem mt_update : MtR X "dict.update" rUpdate := by
  intro pins s σ H x vs v us Q I rx rv h
  obtain ⟨a, b, kvs, more, rfl, rfl, hab, hH, hR, hz, q⟩ := h
  cases rx
  obtain ⟨u, rfl, ru⟩ := Vals.one rv
  cases (show u = Value.ref b from ru)
  obtain ⟨z1, hd1, vs, rel, dd⟩ := dk_of I.hok hH
  obtain ⟨z2, hd2, ms, rel2, dd2⟩ := dk_rd I.hok hR
  refine call_meetsIn PySem.F.slot_dict_update dd.typeIs PySem.F.entry_dict_update (PySem.F.args_dict_update_2 _ _) (meets_dict_update (mixKind X.prog X.w) a b hab hd2) ⟨vs, ms, dd, dd2, by rw [← rel.length, ← rel2.length]; exact hz, fun h' d' _ hs => ?_⟩
  have he : ∃ q, h'.get? a = some q := let ⟨q, _, _, hq, _⟩ := d'; ⟨q, hq⟩
  exact ⟨.non, _, d_write I (by rw [hH]; exact True.intro) hs he (L2.dk_new (Nat.le_trans (mergeK_len _ _) hz) hd1 (KV.merge rel rel2) d'), rfl, q⟩
def mergeD (ks : List L2.Key) (ds : List D) : List L2.Key → List D → List L2.Key × List D
  | k :: kr, d :: dr => mergeD (addK ks k) (setK ks ds k d) kr dr
  | _, _ => (ks, ds)
theorem mergeD_zip {K : PySem.W.Frag} {F : Hp} : ∀ {kr : List L2.Key} {dr : List D} {zs : List V} {ks : List L2.Key} {ds : List D} {xs : List V}, kr.length = dr.length → KsOk ks ds → (∀ x, Sum.inr x ∈ kr → SOk x) → Reps K F ds xs → Reps K F dr zs →
    ∃ ys, mergeK (ks.zip xs) (kr.zip zs) = (mergeD ks ds kr dr).1.zip ys ∧ KsOk (mergeD ks ds kr dr).1 (mergeD ks ds kr dr).2 ∧ Reps K F (mergeD ks ds kr dr).2 ys
  | [], [], zs, ks, ds, xs, _, l, _, r, r2 => by cases r2; exact ⟨xs, rfl, l, r⟩
  | [], _ :: _, _, _, _, _, h, _, _, _, _ => by cases h
  | _ :: _, [], _, _, _, _, h, _, _, _, _ => by cases h
  | k :: kr, d :: dr, _, ks, ds, xs, h, l, sk, r, ⟨z, zr, rfl, r1, r2⟩ => by
    obtain ⟨ys, e1, e2⟩ := setK_zip (j := k) (e := d) (v := z) l.1 r r1
    obtain ⟨ws, f1, f2, f3⟩ := mergeD_zip (kr := kr) (dr := dr) (zs := zr) (ks := addK ks k) (ds := setK ks ds k d) (xs := ys) (by simpa using h) (l.set fun x hx => sk x (by rw [hx]; exact List.mem_cons_self)) (fun x hx => sk x (List.mem_cons_of_mem _ hx)) e2 r2
    refine ⟨ws, ?_, f2, f3⟩
    show mergeK (putK (ks.zip xs) k z) (kr.zip zr) = _
    rw [e1]; exact f1
def dUpdate (to te : DE) : DE := fun env M Q => to env M fun o M1 => (∃ q ks ds, o = .ref q ∧ M1 q = some (.dct ks ds)) ∧ te env M1 fun e M2 => match o, e with
  | .ref q, .dct kr dr => (match M2 q with
    | some (.dct ks ds) => ks.length + kr.length ≤ sizeLine ∧ Q .non (mupd M2 q (.dct (mergeD ks ds kr dr).1 (mergeD ks ds kr dr).2))
    | _ => False)
  | _, _ => False
theorem pd_update (ho : PDE X o to) (he : PDE X i te) (hbase : attributeBase o "update" X.env (eval o X.env) = eval o X.env := by rfl)
    (hfew : ((backTo pos (starEach [i] X.env)).all (fun x => !x.1) && (backToKw pos (keywordEach [] X.env)).all (fun x => x.1.isSome)
      && decide ([i].length + ([] : List Keyword).length + (if ([] : List Keyword).isEmpty then 0 else 1) < 30)) = true := by rfl)
    (hline : (apos.endLine == pos.line) = true := by rfl) (hs : starEach [i] X.env = (false, eval i X.env) :: starEach [] X.env := by rfl) (hplain : (backTo pos (starEach [] X.env)).any (·.1) = false := by rfl) :
    PDE X (.Call (.Attribute o "update" apos) [i] [] pos) (dUpdate to te) :=
  pe_imp (pe_bm PySem.F.plainAttrs_dict PySem.F.slot_dict_update PySem.F.type_dict_update mt_update ho (pa_cons he pa_nil hs) hbase hfew hline hs hplain) fun σ H Q ⟨R, F, env, M, Qd, a, e, h, k⟩ =>
    ⟨R, F, env, M, _, a, e, h, fun F1 H1 M1 d v s1 a1 r1 q1 => by
      obtain ⟨⟨q, ks0, ds0, rfl, hm0⟩, q1⟩ := q1
      cases (show v = V.ref q from r1)
      obtain ⟨_, u0, hu0, xs0, rfl, l0, rx0⟩ := a1.mu _ _ hm0
      refine ⟨.inr (.inr (.inl ⟨rfl, .inl ⟨_, hu0⟩⟩)), R, F1, env, M1, _, a1, e.mono s1, q1, fun F2 H2 M2 d2 v2 s2 a2 r2 q2 => ?_⟩
      cases d2 with
      | dct kr dr =>
        cases hm : M2 q with
        | none =>
          have q2 : (match M2 q with
            | some (.dct ks ds) => ks.length + kr.length ≤ sizeLine ∧ Qd .non (mupd M2 q (.dct (mergeD ks ds kr dr).1 (mergeD ks ds kr dr).2))
            | _ => False) := q2
          rw [hm] at q2; exact q2.elim
        | some mo =>
          have q2 : (match M2 q with
            | some (.dct ks ds) => ks.length + kr.length ≤ sizeLine ∧ Qd .non (mupd M2 q (.dct (mergeD ks ds kr dr).1 (mergeD ks ds kr dr).2))
            | _ => False) := q2
          rw [hm] at q2
          cases mo with
          | dct ks ds =>
            obtain ⟨hz, q2⟩ := q2
            obtain ⟨hF, u, hu, xs, rfl, l, rx⟩ := a2.mu _ _ hm
            obtain ⟨b, ob, zs, rfl, hq, l2, rz⟩ := r2
            have hab : q ≠ b := fun z => by rw [z, hq] at hF; cases hF
            obtain ⟨ys, e1, e2, e3⟩ := mergeD_zip l2.1 l l2.2 rx rz
            refine ⟨q, b, _, _, rfl, rfl, hab, hu, .inr ⟨ob, a2.fz _ _ hq⟩, ?_, k F2 _ _ .non .non (s1.trans s2) (a2.wrote hm (o := .dct (mergeD ks ds kr dr).1 (mergeD ks ds kr dr).2) ?_) rfl q2⟩
            · rw [List.length_zip, List.length_zip]; omega
            · rw [e1]; exact ⟨ys, rfl, e2, e3⟩
          | _ => exact q2.elim
      | _ => exact q2.elim⟩
end
end L3
set_option Elab.async false
set_option linter.all false
set_option maxRecDepth 100000
set_option maxHeartbeats 1000000
namespace L3
open PySem PySem.Spec PyProof.Rows L2
local macro_rules | `(tactic| walk_at "w") => `(tactic| conv => whnf)
def IsRow (d : D) (xs : List D) : Prop := d = .lst xs ∨ d = .tup xs
theorem IsRow.seq {d : D} {xs : List D} (h : IsRow d xs) : seqOf d = some xs := by rcases h with rfl | rfl <;> rfl
end L3
set_option Elab.async false
set_option linter.all false
set_option maxRecDepth 100000
set_option maxHeartbeats 1000000
namespace L3
open PySem PySem.Spec PyProof.Rows L2
local macro_rules | `(tactic| walk_at "w") => `(tactic| conv => whnf)
def doneAt (w : Wr) (p : Int) : Bool := (arsAt w p).isEmpty
structure St where
  pl : List Int
  wt : List Int
  la : Int
  mn : Int
def cnt (w : Wr) (p : Int) : Bool := decide (0 < w.pat) && !doneAt w p
def cntAt (ws : List Wr) (pl : List Int) (k : Nat) : Bool := match ws[k]?, pl[k]? with
  | some w, some p => cnt w p
  | _, _ => false
end L3
set_option Elab.async false
set_option linter.all false
set_option maxRecDepth 100000
set_option maxHeartbeats 1000000
namespace L3
open PySem PySem.Spec PyProof.Rows L2
local macro_rules | `(tactic| walk_at "w") => `(tactic| conv => whnf)
def oth (ws : List Wr) (s : St) (i : Nat) : List Nat := (List.range ws.length).filter fun k => !decide (k = i) && cntAt ws s.pl k
end L3
set_option Elab.async false
set_option linter.all false
set_option maxRecDepth 100000
set_option maxHeartbeats 1000000
namespace L3
open PySem PySem.Spec PyProof.Rows L2
local macro_rules | `(tactic| walk_at "w") => `(tactic| conv => whnf)
theorem cut_from {α : Type} (xs : List α) (k : Nat) : cut xs (some (k : Int)) none = xs.drop k := by
  unfold cut
  rw [HT.sIx_none, HT.sIx_nat]
  by_cases h : k ≤ xs.length
  · rw [Nat.min_eq_left h, List.take_of_length_le (by rw [List.length_drop]; omega)]
  · rw [Nat.min_eq_right (by omega), List.drop_length, List.drop_eq_nil_of_le (by omega)]; simp
end L3
set_option Elab.async false
set_option linter.all false
set_option maxRecDepth 100000
set_option maxHeartbeats 1000000
namespace L3
open PySem PySem.Spec PyProof.Rows L2 NS
local macro_rules | `(tactic| walk_at "w") => `(tactic| conv => whnf)
abbrev excs : List Str := ["BadText"]
def sp_law_number_in : SpD := fun ds M Q _ => ∃ x : Str, ds = [.str x] ∧ SOk x ∧ x.length ≤ 1000 ∧ Q (optI (numP x)) M
def t_law_number_in_1 : DS := (dRet (dIf (dAnd (dTest (dBin (rEqDD id) (dBin rIxD (dVar 1) (dC (.int 0))) (dC (.str "0")))) (dTest (dBin (rEqDD not) (dVar 0) (dC (.str "0"))))) (dC .non) (dUn rIntD (dVar 0))))
def t_law_number_in : DS := (dSeq (dSet 1 (dIf (dTest (dBin (rEqDD id) (dSl (dVar 0) dNoPart (dPart (dC (.int 1)))) (dC (.str "-")))) (dSl (dVar 0) (dPart (dC (.int 1))) dNoPart) (dVar 0)))
    (dSeq (dIfS (dOr (dNot (dTest (dChain rLtI rLtI (dC (.int 0)) (dUn rLenD (dVar 1)) (dC (.int 31))))) (dNot (dTru (dUn rAllD (dLc (iTxt (dVar 1)) (.name 2) dYes (dBin (rInDD id) (dVar 2) (dC (.str "0123456789"))) [2]))))) (dRet (dC .non)) dNext)
    t_law_number_in_1))
theorem r_law_number_in_a {x y : Str} (hy : chs y = figsOf (chs x)) (hyl : y.length ≤ 1000) {M : Mp} {Q : DK} (q : Q (optI (numP x)) M) : (dSeq (dIfS (dOr (dNot (dTest (dChain rLtI rLtI (dC (.int 0)) (dUn rLenD (dVar 1)) (dC (.int 31))))) (dNot (dTru (dUn rAllD (dLc (iTxt (dVar 1)) (.name 2) dYes (dBin (rInDD id) (dVar 2) (dC (.str "0123456789"))) [2]))))) (dRet (dC .non)) dNext)
    t_law_number_in_1) { nx := fun _ M' => Q .non M', rt := Q } [some (.str x), some (.str y), none] M := by
  have hl : (chs y).length = y.length := Array.length_toList
  have e0 : goodN x = (decide (0 < y.length) && (decide (y.length ≤ 30) && ((chs y).all digB && !((chs y).head? == some 48 && x != "0")))) := by
    unfold goodN; rw [← hy, hl]
  have fin : goodN x = false → Q .non M := fun h => by
    unfold numP at q; rw [if_neg (by rw [h]; exact Bool.false_ne_true)] at q; exact q
  walk_at "w"
  by_cases h0 : 0 < y.length ∧ y.length ≤ 30
  · obtain ⟨h0, h30⟩ := h0
    rw [show decide ((0 : Int) < (y.length : Nat)) = true from decide_eq_true (by omega)]
    walk_at "w"
    rw [show decide ((y.length : Int) < 31) = true from decide_eq_true (by omega)]
    walk_at "w"
    refine lc_map (fun d => match d with
      | .str z => .bl (strIn z "0123456789")
      | _ => .non) (fun d hd K1 K2 h1 => ?_) ?_
    · obtain ⟨c, hc, rfl⟩ := List.mem_map.mp hd
      exact h1
    rw [show (signs y).map (fun d => match d with
      | .str z => D.bl (strIn z "0123456789")
      | _ => .non) = ((chs y).map fun c => strIn ⟨#[c]⟩ "0123456789").map D.bl by unfold signs; rw [List.map_map, List.map_map]; rfl]
    walk_at "w"
    rw [asBls_map]
    walk_at "w"
    rw [all_digs]
    cases hd : (chs y).all digB with
    | false =>
      walk_at "w"
      exact fin (by rw [e0, hd, Bool.false_and, Bool.and_false, Bool.and_false])
    | true =>
      walk_at "w"
      cases hc : chs y with
      | nil => rw [hc] at hl; exact absurd hl (by show ¬ (0 = y.length); omega)
      | cons c r =>
        walk_at "w"
        rw [show y.cps.toList = c :: r from hc, atI_0]
        walk_at "w"
        refine ⟨⟨rfl, rfl⟩, ?_⟩
        have go : goodN x = true → (dUn rIntD (dVar 0) [some (.str x), some (.str y), none] M Q) := fun hg => by
          obtain ⟨i, ei, li⟩ := num_some hg
          have q := q
          unfold numP at q
          rw [if_pos hg, ei] at q
          walk_at "w"
          rw [ei]
          exact ⟨by omega, q⟩
        have eg : goodN x = !(some c == some 48 && x != "0") := by
          rw [e0, decide_eq_true h0, decide_eq_true h30, hd, hc]; rfl
        rw [show id (eqD (resD M (sgn c)) (resD M (.str "0"))) = (some c == some 48) by
          show ((⟨#[c]⟩ : Str) == "0") = (some c == some 48)
          rw [beqS, Bool.eq_iff_iff, decide_eq_true_eq, beq_iff_eq]
          exact ⟨fun e => by have := congrArg chs e; injection this with h; exact congrArg some h, fun e => by cases e; rfl⟩]
        cases c1 : (some c == some 48) with
        | false =>
          walk_at "w"
          exact go (by rw [eg, c1]; rfl)
        | true =>
          walk_at "w"
          refine ⟨⟨rfl, rfl⟩, ?_⟩
          rw [show not (eqD (resD M (.str x)) (resD M (.str "0"))) = (x != "0") from rfl]
          cases c2 : (x != "0") with
          | true =>
            walk_at "w"
            exact fin (by rw [eg, c1, c2]; rfl)
          | false =>
            walk_at "w"
            exact go (by rw [eg, c1, c2]; rfl)
  · have hg : goodN x = false := by
      rw [e0]
      by_cases h1 : 0 < y.length
      · have h2 : ¬ y.length ≤ 30 := fun h => h0 ⟨h1, h⟩
        rw [decide_eq_false h2, Bool.false_and, Bool.and_false]
      · rw [decide_eq_false h1, Bool.false_and]
    by_cases h1 : 0 < y.length
    · have h2 : ¬ y.length ≤ 30 := fun h => h0 ⟨h1, h⟩
      rw [show decide ((0 : Int) < (y.length : Nat)) = true from decide_eq_true (by omega)]
      walk_at "w"
      rw [show decide ((y.length : Int) < 31) = false from decide_eq_false (by omega)]
      walk_at "w"
      exact fin hg
    · rw [show decide ((0 : Int) < (y.length : Nat)) = false from decide_eq_false (by omega)]
      walk_at "w"
      exact fin hg
theorem r_law_number_in (ds : List D) (M : Mp) (Q : DK) (E : DX) (hl : ds.length = 1) (h : sp_law_number_in ds M Q E) : t_law_number_in { nx := fun _ M' => Q .non M', rt := Q } (startD ["_law_text", "_law_figures", "_law_one"] ds) M := by
  obtain ⟨x, rfl, hx, hxl, q⟩ := h
  walk_at "w"
  refine ⟨⟨rfl, rfl⟩, ?_⟩
  have h1 : chs (cutS x none (some 1)) = (chs x).take 1 := cutS_to x 1
  have h2 : chs (cutS x (some 1) none) = (chs x).drop 1 := cutS_from x 1
  have hl : (chs x).length = x.length := Array.length_toList
  rw [show id (eqD (resD M (.str (cutS x none (some 1)))) (resD M (.str "-"))) = ((chs x).head? == some 45) by
    show (cutS x none (some 1) == "-") = _
    rw [beqS, Bool.eq_iff_iff, decide_eq_true_eq, beq_iff_eq]
    cases e : chs x with
    | nil =>
      rw [e] at h1
      exact ⟨(fun z => by rw [z] at h1; cases h1), (fun z => nomatch z)⟩
    | cons c r =>
      rw [e] at h1
      have h1 : chs (cutS x none (some 1)) = [c] := h1
      refine ⟨fun z => ?_, fun z => ?_⟩
      · rw [z] at h1
        have h1 : [45] = [c] := h1
        injection h1 with h1; rw [← h1]; rfl
      · have z : some c = some 45 := z
        cases z
        exact str_of h1]
  cases c1 : ((chs x).head? == some 45) with
  | true =>
    walk_at "w"
    refine r_law_number_in_a (x := x) ?_ ?_ q
    · rw [h2]
      cases e : chs x with
      | nil => rw [e] at c1; cases c1
      | cons c r =>
        rw [e] at c1
        have c1 : (some c == some 45) = true := c1
        rw [beq_iff_eq] at c1
        cases c1; rfl
    · have := cutS_length x (some 1) none; omega
  | false =>
    walk_at "w"
    refine r_law_number_in_a (x := x) ?_ hxl q
    cases e : chs x with
    | nil => rfl
    | cons c r =>
      rw [e] at c1
      have c1 : (some c == some 45) = false := c1
      show c :: r = if c = 45 then r else c :: r
      rw [if_neg (fun z => by rw [z] at c1; cases c1)]
theorem findK_look : ∀ (ks : List Str) (ds : List D) (w : Str), findK (ks.map Sum.inr) ds (.inr w) = lookS (rowsOf ks ds) w
  | [], _, _ => rfl
  | _ :: _, [], _ => rfl
  | k :: ks, d :: ds, w => by
    show (if (Sum.inr k : L2.Key) = Sum.inr w then some d else findK (ks.map Sum.inr) ds (.inr w)) = (if k = w then some d else lookS (rowsOf ks ds) w)
    rw [findK_look ks ds w]
    by_cases c : k = w
    · rw [if_pos c, if_pos (by rw [c])]
    · rw [if_neg c, if_neg (fun e => c (Sum.inr.inj e))]
def lThP (k x : Str) : Option Th := if k = "w" then (wrL (Txt.split x "/")).map .wr else if k = "b" then (numP x).map .num else if (isName x && (decide (k = "n") || decide (x.length = 1))) = true then some (.nm x) else none
theorem lThP_eq (k x : Str) : lThP k x = thP k x := by
  unfold lThP thP
  rw [wr_same]
  split
  · rfl
  · split
    · rfl
    · by_cases c : k = "n"
      · rw [if_pos c, decide_eq_true c, Bool.true_or, Bool.and_true]
      · rw [if_neg c, decide_eq_false c, Bool.false_or]; rfl
def ks6 : List L2.Key := ((["come", "leave", "change", "sign", "said", "denied"] : List Str).map Sum.inr : List L2.Key)
def ds6 : List D := ((["w", "n", "w", "s", "bn", "bn"] : List Str).map D.str)
def ks3 : List L2.Key := ((["unsay", "watch", "unwatch"] : List Str).map Sum.inr : List L2.Key)
def ds3 : List D := ((["b", "b", "b"] : List Str).map D.str)
def ks9 : List L2.Key := (["come", "leave", "change", "sign", "said", "denied", "unsay", "watch", "unwatch"] : List Str).map Sum.inr
def ds9 : List D := (["w", "n", "w", "s", "bn", "bn", "b", "b", "b"] : List Str).map D.str
theorem a6 : (addK (addK (addK (addK (addK (addK [] (Sum.inr (Str.ofString "come"))) (Sum.inr (Str.ofString "leave"))) (Sum.inr (Str.ofString "change"))) (Sum.inr (Str.ofString "sign"))) (Sum.inr (Str.ofString "said"))) (Sum.inr (Str.ofString "denied"))) = ks6 := by kernel_rfl
theorem s6 : (setK (addK (addK (addK (addK (addK [] (Sum.inr (Str.ofString "come"))) (Sum.inr (Str.ofString "leave"))) (Sum.inr (Str.ofString "change"))) (Sum.inr (Str.ofString "sign"))) (Sum.inr (Str.ofString "said"))) (setK (addK (addK (addK (addK [] (Sum.inr (Str.ofString "come"))) (Sum.inr (Str.ofString "leave"))) (Sum.inr (Str.ofString "change"))) (Sum.inr (Str.ofString "sign"))) (setK (addK (addK (addK [] (Sum.inr (Str.ofString "come"))) (Sum.inr (Str.ofString "leave"))) (Sum.inr (Str.ofString "change"))) (setK (addK (addK [] (Sum.inr (Str.ofString "come"))) (Sum.inr (Str.ofString "leave"))) (setK (addK [] (Sum.inr (Str.ofString "come"))) (setK [] [] (Sum.inr (Str.ofString "come")) (D.str (Str.ofString "w"))) (Sum.inr (Str.ofString "leave")) (D.str (Str.ofString "n"))) (Sum.inr (Str.ofString "change")) (D.str (Str.ofString "w"))) (Sum.inr (Str.ofString "sign")) (D.str (Str.ofString "s"))) (Sum.inr (Str.ofString "said")) (D.str (Str.ofString "bn"))) (Sum.inr (Str.ofString "denied")) (D.str (Str.ofString "bn"))) = ds6 := by kernel_rfl
theorem a3 : (addK (addK (addK [] (Sum.inr (Str.ofString "unsay"))) (Sum.inr (Str.ofString "watch"))) (Sum.inr (Str.ofString "unwatch"))) = ks3 := by kernel_rfl
theorem s3 : (setK (addK (addK [] (Sum.inr (Str.ofString "unsay"))) (Sum.inr (Str.ofString "watch"))) (setK (addK [] (Sum.inr (Str.ofString "unsay"))) (setK [] [] (Sum.inr (Str.ofString "unsay")) (D.str (Str.ofString "b"))) (Sum.inr (Str.ofString "watch")) (D.str (Str.ofString "b"))) (Sum.inr (Str.ofString "unwatch")) (D.str (Str.ofString "b"))) = ds3 := by kernel_rfl
theorem m9 : mergeD ks6 ds6 ks3 ds3 = (ks9, ds9) := by kernel_rfl
theorem find9 (w : Str) : findK ks9 ds9 (.inr w) = lookS tb_FORMS w := findK_look _ _ _
def sp_law_deed_in : SpD := fun ds M Q _ => ∃ x : Str, ds = [.str x] ∧ SOk x ∧ x.length ≤ 500 ∧ Q (optDd (deedP (Txt.split x " "))) M
def t_law_deed_in_1 : DS := (dFrzN 4 (dRet (dIf (dTest (dBin (rInDD id) (dC .non) (dVar 4))) (dC .non) (dUn rTupleD (dVar 4)))))
def t_law_deed_in_2 : DS := (dSeq (dFor (iZipTx (dCons (dVar 3) (dCons (dSl (dVar 1) (dPart (dC (.int 1))) dNoPart) dNil))) (.tup [(.name 5), (.name 6)]) (dIfS (dTest (dBin (rEqDD id) (dVar 5) (dC (.str "w")))) (dDrop (dAppend (dVar 4) (dCall sp_law_writer_in (dCons (dVar 6) dNil)))) (dIfS (dTest (dBin (rEqDD id) (dVar 5) (dC (.str "b")))) (dDrop (dAppend (dVar 4) (dCall sp_law_number_in (dCons (dVar 6) dNil)))) (dSeq (dSet 7 (dAndV (dCall sp_law_is_name (dCons (dVar 6) dNil)) (dOrV (dBin (rEqDD id) (dVar 5) (dC (.str "n"))) (dBin (rEqDD id) (dUn rLenD (dVar 6)) (dC (.int 1))))))
    (dDrop (dAppend (dVar 4) (dIf (dTru (dVar 7)) (dVar 6) (dC .non))))))))
    t_law_deed_in_1)
def t_law_deed_in : DS := (dSeq (dSet 1 (dSplit (dVar 0) (dC (.str " "))))
    (dSeq (dSet 2 (dDct [((dC (.str "come")), (dC (.str "w"))), ((dC (.str "leave")), (dC (.str "n"))), ((dC (.str "change")), (dC (.str "w"))), ((dC (.str "sign")), (dC (.str "s"))), ((dC (.str "said")), (dC (.str "bn"))), ((dC (.str "denied")), (dC (.str "bn")))]))
    (dSeq (dDrop (dUpdate (dVar 2) (dFrz (dDct [((dC (.str "unsay")), (dC (.str "b"))), ((dC (.str "watch")), (dC (.str "b"))), ((dC (.str "unwatch")), (dC (.str "b")))]))))
    (dSeq (dFrzN 2 (dPar 3 4 (dCons (dGetS (dVar 2) (dBin rIxD (dVar 1) (dC (.int 0))) (dC (.str ""))) (dCons (dLstM (dCons (dBin rIxD (dVar 1) (dC (.int 0))) dNil)) dNil))))
    (dSeq (dIfS (dOr (dTest (dBin (rEqDD id) (dVar 3) (dC (.str "")))) (dTest (dBin (rEqDD not) (dUn rLenD (dVar 3)) (dBin rSubI (dUn rLenD (dVar 1)) (dC (.int 1)))))) (dFrzN 4 (dRet (dC .non))) dNext)
    t_law_deed_in_2)))))
theorem r_law_deed_in (ds : List D) (M : Mp) (Q : DK) (E : DX) (hl : ds.length = 1) (h : sp_law_deed_in ds M Q E) : t_law_deed_in { nx := fun _ M' => Q .non M', rt := Q } (startD ["_law_text", "_law_words", "_law_forms", "_law_kinds", "_law_found", "_law_kind", "_law_word", "_law_good"] ds) M := by
  obtain ⟨x, rfl, hx, hxl, q⟩ := h
  have sp := split_parts (x := x) (sep := " ")
  have sok := parts_sok (sep := " ") hx
  have pos := PyProof.Rows.split_pos x " "
  walk_at "w"
  refine ⟨by decide +kernel, by rw [sizeLine_eq]; omega, sok, ?_⟩
  cases e : Txt.split x " " with
  | nil => rw [e] at pos; exact absurd pos (by decide)
  | cons w rows =>
    rw [e] at q sp sok
    have q : Q (optDd (match formOf w with
      | some f => if rows.length = f.length then (allS (List.zipWith thP (oneS f) rows)).map fun ts => (w, ts) else none
      | none => none)) M := q
    walk_at "w"
    intro pf hpf
    rw [s6, a6]
    walk_at "w"
    refine ⟨⟨pf, _, _, rfl, mupd_same⟩, ?_⟩
    walk_at "w"
    intro p2 hp2
    rw [s3, a3]
    have hne : p2 ≠ pf := fun e => by rw [e, mupd_same] at hp2; cases hp2
    walk_at "w"
    rw [mupd_same]
    walk_at "w"
    rw [mdel_mupd hp2]
    walk_at "w"
    rw [mupd_same]
    refine ⟨by decide, ?_⟩
    rw [m9, mupd_mupd]
    walk_at "w"
    rw [mupd_same]
    walk_at "w"
    rw [mdel_mupd hpf]
    refine ⟨rfl, ?_⟩
    walk_at "w"
    rw [show atI (List.map D.str (w :: rows)) 0 = some (.str w) from atI_0]
    walk_at "w"
    rw [show findK (ks9, ds9).fst (ks9, ds9).snd (Sum.inr w) = lookS tb_FORMS w from find9 w]
    cases hf : lookS tb_FORMS w with
    | none =>
      have ef : formOf w = none := by unfold formOf; rw [hf]
      rw [ef] at q
      walk_at "w"
      rw [show atI (List.map D.str (w :: rows)) 0 = some (.str w) from atI_0]
      walk_at "w"
      intro pl hpl
      walk_at "w"
      refine ⟨⟨rfl, rfl⟩, ?_⟩
      walk_at "w"
      rw [mupd_same]
      walk_at "w"
      rw [mdel_mupd hpl]
      exact q
    | some d =>
      obtain ⟨f, rfl, hfm, _⟩ := forms_in _ hf
      have ef : formOf w = some f := by unfold formOf; rw [hf]
      obtain ⟨_, _, f2, _, fok, _, _⟩ := word_ch ef
      have fne : (f == "") = false := by
        simp only [List.mem_cons, List.not_mem_nil, or_false] at hfm
        rcases hfm with rfl | rfl | rfl | rfl | rfl <;> decide
      rw [ef] at q
      have q : Q (optDd (if rows.length = f.length then (allS (List.zipWith thP (oneS f) rows)).map fun ts => (w, ts) else none)) M := q
      rw [show (some (D.str f)).getD (D.str (Str.ofString "")) = D.str f from rfl]
      walk_at "w"
      rw [show atI (List.map D.str (w :: rows)) 0 = some (.str w) from atI_0]
      walk_at "w"
      intro pl hpl
      walk_at "w"
      refine ⟨⟨rfl, rfl⟩, ?_⟩
      rw [show id (eqD (resD (mupd M pl (.lst [.str w])) (.str f)) (resD (mupd M pl (.lst [.str w])) (.str ""))) = false from fne]
      walk_at "w"
      refine ⟨⟨rfl, rfl⟩, ?_⟩
      rw [show not (eqD (resD (mupd M pl (.lst [.str w])) (.int (f.length : Nat))) (resD (mupd M pl (.lst [.str w])) (.int (((List.map D.str (w :: rows)).length : Nat) - 1)))) = !decide (rows.length = f.length) by
        show (!((f.length : Int) == (((List.map D.str (w :: rows)).length : Nat) : Int) - 1)) = _
        congr 1
        rw [Bool.eq_iff_iff, beq_iff_eq, decide_eq_true_eq, List.length_map, List.length_cons]
        omega]
      by_cases c : rows.length = f.length
      · rw [if_pos c] at q
        rw [decide_eq_true c]
        walk_at "w"
        rw [show cut (List.map D.str (w :: rows)) (some 1) none = rows.map D.str from cut_from _ 1]
        have zl : (List.zipWith thP (oneS f) rows).length ≤ 2 := by rw [List.length_zipWith, oneS_len]; omega
        refine for_inv (fun i env M' => ∃ e5 e6 e7, env = [some (.str x), some (.lst ((w :: rows).map D.str)), some (.dct ks9 ds9), some (.str f), some (.ref pl), e5, e6, e7] ∧ M' = mupd M pl (.lst (.str w :: ((List.zipWith thP (oneS f) rows).take i).map optT))) ⟨_, _, _, rfl, rfl⟩
          (fun i z env M' K hz ⟨e5, e6, e7, ee, eM⟩ hK => ?_) fun env M' ⟨e5, e6, e7, ee, eM⟩ => ?_
        · subst ee eM
          obtain ⟨a, b, ha, hb, rfl⟩ := zip_at hz
          unfold signs at ha
          rw [List.getElem?_map] at ha hb
          obtain ⟨k, hk, rfl⟩ := Option.map_eq_some_iff.mp ha
          obtain ⟨y, hy, rfl⟩ := Option.map_eq_some_iff.mp hb
          have hyr := List.mem_cons_of_mem w (List.mem_of_getElem? hy)
          have yok := sok y hyr
          have yl := (sp.2 y hyr).1
          have hzi : (List.zipWith thP (oneS f) rows)[i]? = some (thP ⟨#[k]⟩ y) := by
            rw [List.getElem?_zipWith]
            unfold oneS
            rw [List.getElem?_map, hk, hy]; rfl
          have tl : ((List.zipWith thP (oneS f) rows).take i).length ≤ 2 := by rw [List.length_take]; omega
          have nx : ∀ e5 e6 e7, K [some (.str x), some (.lst ((w :: rows).map D.str)), some (.dct ks9 ds9), some (.str f), some (.ref pl), e5, e6, e7] (mupd (mupd M pl (.lst (.str w :: ((List.zipWith thP (oneS f) rows).take i).map optT))) pl (.lst ((.str w :: ((List.zipWith thP (oneS f) rows).take i).map optT) ++ [optT (lThP ⟨#[k]⟩ y)]))) := fun e5 e6 e7 => hK _ _ ⟨e5, e6, e7, rfl, by
            rw [mupd_mupd, lThP_eq, List.take_add_one, hzi, List.map_append]; rfl⟩
          unfold lThP at nx
          have ek : ∀ (N : Mp) (z : Str), id (eqD (resD N (sgn k)) (resD N (.str z))) = decide ((⟨#[k]⟩ : Str) = z) := fun N z => by
            show ((⟨#[k]⟩ : Str) == z) = _
            rw [beqS]
          walk_at "w"
          refine ⟨⟨rfl, rfl⟩, ?_⟩
          rw [ek]
          by_cases c1 : (⟨#[k]⟩ : Str) = "w"
          · rw [if_pos c1] at nx
            rw [decide_eq_true c1]
            walk_at "w"
            refine ⟨?_, ?_⟩
            · walk_at "w"
              rw [mupd_same]
              trivial
            refine ⟨y, rfl, yok, by omega, ?_⟩
            walk_at "w"
            rw [mupd_same]
            refine ⟨by rw [sizeLine_eq, List.length_cons, List.length_map]; omega, ?_⟩
            have nx := nx (some (sgn k)) (some (.str y)) e7
            cases e : wrL (Txt.split y "/") with
            | none => rw [e] at nx; exact nx
            | some v => rw [e] at nx; exact nx
          rw [if_neg c1] at nx
          rw [decide_eq_false c1]
          walk_at "w"
          refine ⟨⟨rfl, rfl⟩, ?_⟩
          rw [ek]
          by_cases c2 : (⟨#[k]⟩ : Str) = "b"
          · rw [if_pos c2] at nx
            rw [decide_eq_true c2]
            walk_at "w"
            refine ⟨?_, ?_⟩
            · walk_at "w"
              rw [mupd_same]
              trivial
            refine ⟨y, rfl, yok, by omega, ?_⟩
            walk_at "w"
            rw [mupd_same]
            refine ⟨by rw [sizeLine_eq, List.length_cons, List.length_map]; omega, ?_⟩
            have nx := nx (some (sgn k)) (some (.str y)) e7
            cases e : numP y with
            | none => rw [e] at nx; exact nx
            | some v => rw [e] at nx; exact nx
          rw [if_neg c2] at nx
          rw [decide_eq_false c2]
          walk_at "w"
          refine ⟨y, rfl, ?_⟩
          have eq1 : ∀ (N : Mp) (n : Nat), id (eqD (resD N (.int (n : Nat))) (resD N (.int 1))) = decide (n = 1) := fun N n => by
            show ((n : Int) == 1) = _
            rw [Bool.eq_iff_iff, beq_iff_eq, decide_eq_true_eq]
            omega
          cases g1 : isName y with
          | false =>
            rw [g1, Bool.false_and, if_neg Bool.false_ne_true] at nx
            walk_at "w"
            refine ⟨?_, ?_⟩
            · walk_at "w"
              rw [mupd_same]
              trivial
            walk_at "w"
            rw [mupd_same]
            refine ⟨by rw [sizeLine_eq, List.length_cons, List.length_map]; omega, ?_⟩
            exact nx _ _ _
          | true =>
            rw [g1, Bool.true_and] at nx
            walk_at "w"
            refine ⟨⟨rfl, rfl⟩, ?_⟩
            rw [ek]
            by_cases c3 : (⟨#[k]⟩ : Str) = "n"
            · rw [decide_eq_true c3, Bool.true_or, if_pos rfl] at nx
              rw [decide_eq_true c3]
              walk_at "w"
              refine ⟨?_, ?_⟩
              · walk_at "w"
                rw [mupd_same]
                trivial
              walk_at "w"
              rw [mupd_same]
              refine ⟨by rw [sizeLine_eq, List.length_cons, List.length_map]; omega, ?_⟩
              exact nx _ _ _
            · rw [decide_eq_false c3, Bool.false_or] at nx
              rw [decide_eq_false c3]
              walk_at "w"
              refine ⟨⟨rfl, rfl⟩, ?_⟩
              rw [eq1]
              by_cases c4 : y.length = 1
              · rw [decide_eq_true c4, if_pos rfl] at nx
                rw [decide_eq_true c4]
                walk_at "w"
                refine ⟨?_, ?_⟩
                · walk_at "w"
                  rw [mupd_same]
                  trivial
                walk_at "w"
                rw [mupd_same]
                refine ⟨by rw [sizeLine_eq, List.length_cons, List.length_map]; omega, ?_⟩
                exact nx _ _ _
              · rw [decide_eq_false c4, if_neg Bool.false_ne_true] at nx
                rw [decide_eq_false c4]
                walk_at "w"
                refine ⟨?_, ?_⟩
                · walk_at "w"
                  rw [mupd_same]
                  trivial
                walk_at "w"
                rw [mupd_same]
                refine ⟨by rw [sizeLine_eq, List.length_cons, List.length_map]; omega, ?_⟩
                exact nx _ _ _
        · subst ee eM
          have lz : (List.zipWith (fun a b => D.tup [a, b]) (signs f) (rows.map D.str)).length = (List.zipWith thP (oneS f) rows).length := by
            unfold signs oneS
            rw [List.length_zipWith, List.length_zipWith, List.length_map, List.length_map, List.length_map]
          rw [lz, List.take_length]
          generalize List.zipWith thP (oneS f) rows = zs at zl q ⊢
          walk_at "w"
          rw [mupd_same]
          walk_at "w"
          rw [mdel_mupd hpl]
          refine ⟨⟨rfl, ?_⟩, ?_⟩
          · show D.les 58 (.str w :: zs.map optT) = true
            show (D.le 58 (.str w) && D.les 58 (zs.map optT)) = true
            rw [optT_les]; rfl
          rw [show id ((D.str w :: zs.map optT).any fun z => eqD z .non) = decide (allS zs = none) by
            show (false || ((zs.map optT).any fun z => eqD z .non)) = _
            rw [none_inT, Bool.false_or]]
          cases ea : allS zs with
          | none =>
            rw [ea] at q
            walk_at "w"
            exact q
          | some ts =>
            rw [ea] at q
            obtain ⟨e1, e2⟩ := all_someT ea
            walk_at "w"
            rw [e1]
            exact q
      · rw [if_neg c] at q
        rw [decide_eq_false c]
        walk_at "w"
        rw [mupd_same]
        walk_at "w"
        rw [mdel_mupd hpl]
        exact q
def sp_law_bent_text : SpD := fun ds M Q _ => ∃ p b, ∃ x : Str, ∃ sgs : List Str, ds = [.ref p, .str x, .lst (sgs.map D.str)] ∧ M p = some (.lst (Bag.l b)) ∧ b.Ok ∧ SOk x ∧ x.length ≤ 400 ∧ 0 < sgs.length ∧ sgs.length ≤ 100 ∧ (∀ s ∈ sgs, s.length = 1 ∧ SOk s) ∧
  ∀ (y : Str) b', Bag.Ok b' → SOk y → y.length ≤ x.length + 2 → Q (.str y) (mupd M p (.lst b'.l))
def t_law_bent_text_1 : DS := (dRet (dBin rAddD (dBin rAddD (dSl (dVar 1) dNoPart (dPart (dVar 4))) (dBin rMulS (dVar 3) (dBin rSubI (dVar 5) (dC (.int 1))))) (dSl (dVar 1) (dPart (dVar 4)) dNoPart)))
def t_law_bent_text_2 : DS := (dSeq (dIfS (dTest (dBin (rEqDD id) (dVar 5) (dC (.int 1)))) (dRet (dBin rAddD (dBin rAddD (dSl (dVar 1) dNoPart (dPart (dVar 4))) (dVar 3)) (dSl (dVar 1) (dPart (dBin rAddD (dVar 4) (dC (.int 1)))) dNoPart))) dNext)
    t_law_bent_text_1)
def t_law_bent_text : DS := (dSeq (dPar 4 5 (dCons (dCall sp_law_pull (dCons (dVar 0) (dCons (dBin rAddD (dUn rLenD (dVar 1)) (dC (.int 1))) dNil))) (dCons (dCall sp_law_pull (dCons (dVar 0) (dCons (dC (.int 4)) dNil))) dNil)))
    (dSeq (dSet 3 (dCall sp_law_of (dCons (dVar 0) (dCons (dVar 2) dNil))))
    (dSeq (dIfS (dTest (dBin (rEqDD id) (dVar 5) (dC (.int 0)))) (dRet (dBin rAddD (dSl (dVar 1) dNoPart (dPart (dVar 4))) (dSl (dVar 1) (dPart (dBin rAddD (dVar 4) (dC (.int 1)))) dNoPart))) dNext)
    t_law_bent_text_2)))
theorem appS_len {x y : Str} : (x ++ y).length = x.length + y.length := by
  show (x.cps ++ y.cps).size = x.cps.size + y.cps.size
  rw [Array.size_append]
theorem toS_len (x : Str) (k : Nat) : (cutS x none (some (k : Int))).length = min k x.length := by
  have h := congrArg List.length (cutS_to x k)
  rw [List.length_take] at h
  have e : ∀ y : Str, y.cps.toList.length = y.length := fun y => by simp [Str.length]
  rw [e, e] at h
  exact h
theorem fromS_len (x : Str) (k : Nat) : (cutS x (some (k : Int)) none).length = x.length - k := by
  have h := congrArg List.length (cutS_from x k)
  rw [List.length_drop] at h
  have e : ∀ y : Str, y.cps.toList.length = y.length := fun y => by simp [Str.length]
  rw [e, e] at h
  exact h
theorem sok_two {x : Str} (h : SOk x) (h1 : x.length = 1) (k : Int) : SOk (twiceS x k) ∧ (twiceS x k).length ≤ 2 := by
  unfold twiceS
  split
  · exact ⟨h, by omega⟩
  · exact ⟨sok_app h h (by rw [sizeLine_eq]; omega), by rw [appS_len]; omega⟩
theorem r_law_bent_text (ds : List D) (M : Mp) (Q : DK) (E : DX) (hl : ds.length = 3) (h : sp_law_bent_text ds M Q E) : t_law_bent_text { nx := fun _ M' => Q .non M', rt := Q } (startD ["_law_bag_here", "_law_text", "_law_signs_here", "_law_sign", "_law_at", "_law_pick"] ds) M := by
  obtain ⟨p, b, x, sgs, rfl, hM, hb, ok, hx, h0, h1, hs, q⟩ := h
  walk_at "w"
  refine ⟨p, b, (x.length : Int) + 1, rfl, hM, hb, by omega, by omega, fun a1 b1 hb1 a10 a11 => ?_⟩
  obtain ⟨k, rfl⟩ : ∃ k : Nat, a1 = k := ⟨a1.toNat, by omega⟩
  have hk : k ≤ x.length := by omega
  walk_at "w"
  refine ⟨p, b1, 4, rfl, mupd_same, hb1, by decide, by decide, fun pick b2 hb2 p0 p1 => ?_⟩
  rw [mupd_mupd]
  walk_at "w"
  refine ⟨p, b2, .lst (sgs.map D.str), sgs.map D.str, rfl, mupd_same, hb2, by rw [List.length_map]; exact h0, by rw [List.length_map]; omega, .inl ⟨rfl, fun e => by cases e⟩, fun y b3 hb3 hy => ?_⟩
  rw [mupd_mupd]
  obtain ⟨sg, hsg, rfl⟩ := List.mem_map.mp hy
  obtain ⟨l1, sk⟩ := hs sg hsg
  have c1 := sok_cut ok none (some (k : Int))
  have c2 := sok_cut ok (some (k : Int)) none
  have c3 := sok_cut ok (some ((k + 1 : Nat) : Int)) none
  have n1 := toS_len x k
  have n2 := fromS_len x k
  have n3 := fromS_len x (k + 1)
  have sl : sizeLine = 16777216 := sizeLine_eq
  have ep : (k : Int) + 1 = ((k + 1 : Nat) : Int) := by omega
  walk_at "w"
  refine ⟨⟨rfl, rfl⟩, ?_⟩
  walk_at "w"
  refine brn_by (fun hc => ?_) fun hc => ?_
  · walk_at "w"
    rw [ep]
    refine ⟨by omega, ?_⟩
    exact q _ b3 hb3 (sok_app c1 c3 (by omega)) (by rw [appS_len]; omega)
  · have hp0 : pick ≠ 0 := fun e => by
      have hc : (pick == 0) = false := hc
      rw [e] at hc; cases hc
    walk_at "w"
    refine ⟨⟨rfl, rfl⟩, ?_⟩
    walk_at "w"
    refine brn_by (fun hc => ?_) fun hc => ?_
    · walk_at "w"
      refine ⟨by omega, ?_⟩
      walk_at "w"
      rw [ep]
      refine ⟨by rw [appS_len]; omega, ?_⟩
      exact q _ b3 hb3 (sok_app (sok_app c1 sk (by omega)) c3 (by rw [appS_len]; omega)) (by rw [appS_len, appS_len]; omega)
    · have hp1 : pick ≠ 1 := fun e => by
        have hc : (pick == 1) = false := hc
        rw [e] at hc; cases hc
      obtain ⟨t1, t2⟩ := sok_two sk l1 (pick - 1)
      walk_at "w"
      refine ⟨⟨by omega, by omega, by omega⟩, ?_⟩
      walk_at "w"
      refine ⟨by omega, ?_⟩
      walk_at "w"
      refine ⟨by rw [appS_len]; omega, ?_⟩
      exact q _ b3 hb3 (sok_app (sok_app c1 t1 (by omega)) c2 (by rw [appS_len]; omega)) (by rw [appS_len, appS_len]; omega)
theorem field_text : fieldOf ["at", "word"] [.int 0, .str "BadText"] = some (.int 0) := by
  unfold fieldOf
  show (if isS ["Taken", "NoName"] "BadText" = true then _ else _) = _
  rw [if_neg (by decide +kernel), if_neg (by decide +kernel), if_neg (by decide +kernel), if_neg (by decide +kernel), if_neg (by decide +kernel)]
  rfl
end L3
set_option Elab.async false
set_option linter.all false
set_option maxRecDepth 100000
set_option maxHeartbeats 1000000
namespace L3
open PySem PySem.Spec PyProof.Rows L2
section
variable {X : Cx}
def timesS (x : Str) (k : Nat) : Str := ⟨(List.replicate k x.cps).foldl (· ++ ·) #[]⟩
theorem fold_cps (x : Array Nat) : ∀ (k : Nat) (acc : Array Nat), ((List.replicate k x).foldl (· ++ ·) acc).toList = acc.toList ++ (List.replicate k x.toList).flatten
  | 0, acc => by simp
  | k + 1, acc => by
    rw [List.replicate_succ, List.foldl_cons, fold_cps x k, List.replicate_succ, List.flatten_cons, Array.toList_append, List.append_assoc]
theorem times_cps (x : Str) (k : Nat) : (timesS x k).cps.toList = (List.replicate k x.cps.toList).flatten := by
  unfold timesS
  rw [fold_cps]; rfl
theorem sum_rep (n : Nat) : ∀ k : Nat, (List.replicate k n).sum = k * n
  | 0 => by simp
  | k + 1 => by rw [List.replicate_succ, List.sum_cons, sum_rep n k, Nat.succ_mul]; omega
theorem times_len (x : Str) (k : Nat) : (timesS x k).length = k * x.length := by
  have h : (timesS x k).cps.toList.length = (timesS x k).length := Array.length_toList
  have h2 : x.cps.toList.length = x.length := Array.length_toList
  rw [← h, times_cps, List.length_flatten, List.map_replicate, sum_rep, h2]
theorem times_sok {x : Str} {k : Nat} (h : SOk x) (hk : k ≤ 1000) (hl : x.length ≤ 1000) : SOk (timesS x k) := by
  refine ⟨by rw [times_len, sizeLine_eq]; have := Nat.mul_le_mul hk hl; omega, fun c hc => ?_⟩
  rw [times_cps] at hc
  obtain ⟨l, hl, hc⟩ := List.mem_flatten.mp hc
  rw [List.eq_of_mem_replicate hl] at hc
  exact h.2 c hc
def rMulTV : R2 := fun x y H Q => ∃ (z : Str) (k : Nat), x = .str z ∧ y = .int k ∧ 2 ≤ k ∧ k ≤ 1000 ∧ 0 < z.length ∧ z.length ≤ 1000 ∧ Q (.str (timesS z k)) H
theorem op_mulTV : OpR X (binaryOp .Mult) rMulTV := by
  intro pins s σ H x y v u Q I rx ry ⟨z, k, ex, ey, hk, hk2, h0, h1, q⟩
  subst ex ey
  obtain ⟨t, rfl⟩ := rx
  obtain ⟨t', rfl⟩ := ry
  have sl : (sizeLine : Nat) = 16777216 := sizeLine_eq
  have tl := times_len z k
  have tm := Nat.mul_le_mul hk2 h1
  have dv : ((9223372036854775807 : Int) / (k : Int)) ≥ 9223372036854775 := by
    rw [ge_iff_le, Int.le_ediv_iff_mul_le (by omega)]; omega
  refine PySem.P.mul_str ?_ (fun _ _ => ?_) (fun _ _ => ?_) ?_
  · have p : (2 : Int) ^ 63 = 9223372036854775808 := by decide
    rw [p, decide_eq_false (by omega), decide_eq_false (by omega)]; rfl
  · intro h
    have e : ((2 : Int) ^ 63 - 1) = 9223372036854775807 := by decide
    have h2 : (9223372036854775807 : Int) / (k : Int) < (z.length : Int) := by rw [← e]; exact h
    have h3 := Int.lt_of_le_of_lt dv h2
    clear h h2 dv
    omega
  · unfold Builtin.Str.tooLong
    rw [Int.toNat_natCast, Nat.mul_comm, decide_eq_false_iff_not]
    omega
  · rw [if_neg (by omega), if_neg (by simp; omega)]
    rw [show (⟨(List.replicate (k : Int).toNat z.cps).foldl (· ++ ·) #[]⟩ : Str) = timesS z k from rfl]
    exact ⟨by show (timesS z k).length ≤ _; rw [tl]; omega, .str (timesS z k), H, I.tok _, ⟨_, rfl⟩, q⟩
def rMulT : R2D := fun d e M Q => match d, e with
  | .str x, .int k => (2 ≤ k ∧ k ≤ 1000 ∧ 0 < x.length ∧ x.length ≤ 1000) ∧ Q (.str (timesS x k.toNat)) M
  | _, _ => False
theorem opd_mulT : OpD X (binaryOp .Mult) rMulT := ⟨_, op_mulTV, fun R F M H d e x y Qd Q a r1 r2 q kd => by
  unfold rMulT at q
  split at q
  · rename_i z k
    obtain ⟨r1, ok⟩ := r1
    obtain ⟨⟨k2, k3, l0, l1⟩, q⟩ := q
    refine ⟨z, k.toNat, r1, ?_, by omega, by omega, l0, l1, kd F H M (.str _) _ (Same.refl _) a ⟨rfl, times_sok ok (by omega) l1⟩ q⟩
    rw [show y = V.int k from r2, Int.toNat_of_nonneg (by omega)]
  · exact q.elim⟩
end
end L3
set_option Elab.async false
set_option linter.all false
set_option maxRecDepth 100000
set_option maxHeartbeats 1000000
namespace L3
open PySem PySem.Spec PyProof.Rows L2 NS
local macro_rules | `(tactic| walk_at "w") => `(tactic| conv => whnf)
def sp_read_deed : SpD := fun ds M Q E => ∃ x : Str, ds = [.str x] ∧ SOk x ∧ x.length ≤ 500 ∧ (∀ d, deedP (Txt.split x " ") = some d → Q (dD d) M) ∧ (deedP (Txt.split x " ") = none → E "BadText" ["at", "word"] [.int 0, .str "BadText"] M)
def t_read_deed_1 : DSX := (xS (dRet (dVar 1)))
def t_read_deed : DSX := (xSeq (xS (dSet 1 (dCall sp_deed_in (dCons (dVar 0) dNil))))
    (xSeq (xIf (dTest (dBin (rIsD id) (dVar 1) (dC .non))) (xRaise "BadText" ["at"] (dCons (dC (.int 0)) dNil)) (xS dNext))
    t_read_deed_1))
theorem r_read_deed (ds : List D) (M : Mp) (Q : DK) (E : DX) (hl : ds.length = 1) (h : sp_read_deed ds M Q E) : t_read_deed { nx := fun _ M' => Q .non M', rt := Q } E (startD ["text", "deed"] ds) M := by
  obtain ⟨x, rfl, hx, hxl, q1, q2⟩ := h
  walk_at "w"
  refine ⟨x, rfl, hx, hxl, ?_⟩
  cases e : deedP (Txt.split x " ") with
  | none => exact q2 e
  | some d => exact q1 d e
theorem wr_le5 (w : Wr) : D.le 5 (wrD w) = true := by
  show (D.le 4 (.str w.name) && (D.les 3 (w.ar.map arD) && true)) = true
  rw [show D.les 3 (w.ar.map arD) = true from les_of fun d hd => by
    obtain ⟨a, _, rfl⟩ := List.mem_map.mp hd
    rfl]
  rfl
theorem thg_le5 (t : Th) : D.le 5 (thgD t) = true := by
  cases t with
  | wr w => exact wr_le5 w
  | nm x => rfl
  | num i => rfl
theorem dD_le6 (d : Dd) : D.le 6 (dD d) = true := by
  show (D.le 5 (.str d.1) && D.les 5 (d.2.map thgD)) = true
  rw [show D.les 5 (d.2.map thgD) = true from les_of fun x hx => by
    obtain ⟨t, _, rfl⟩ := List.mem_map.mp hx
    exact thg_le5 t]
  rfl
def bends : List Str := [" ", "0", "-", "a", "A", "/", "1", ";", "\n"]
theorem bends_ok : ∀ s ∈ bends, s.length = 1 ∧ SOk s := by decide +kernel
def s31 : Str := timesS "7" 31
def odds1 : List Str := ["", " ", "come", "come x", "leave", "leave A", "leave abcdefg", "sign ab", "sign ", "sign A", "said a 0"]
def odds2 : List Str := ["said 0", "said 0 a ", " said 0 a", "said 00 a", "said -0 a", "said +1 a", "unsay", "unsay a", "undo"]
def odds3 : List Str := ["watch 1 2", "watch 01", "unwatch -", "Come x/-/0/0", Str.ofString "watch " ++ s31, "come x/-/0/0 0", "many"]
def odds : List Str := odds1 ++ odds2 ++ odds3
theorem odds_ok : ∀ x ∈ odds, SOk x ∧ x.length ≤ 500 := by
  have h : (odds.all fun x => decide (x.length ≤ 500) && x.cps.toList.all fun c => decide (c < 1000)) = true := by decide +kernel
  intro x hx
  have := List.all_eq_true.mp h x hx
  rw [Bool.and_eq_true, List.all_eq_true] at this
  have h1 := of_decide_eq_true this.1
  exact ⟨⟨Nat.le_trans h1 (by decide), fun c hc => by have := of_decide_eq_true (this.2 c hc); omega⟩, h1⟩
theorem odds_bad : ∀ x ∈ odds, deedP (Txt.split x " ") = none := by
  have h : (odds.all fun x => (deedP (Txt.split x " ")).isNone) = true := by decide +kernel
  intro x hx
  have := List.all_eq_true.mp h x hx
  exact Option.isNone_iff_eq_none.mp this
def big : Int := 777777777777777777777777777777
theorem big_tx : timesS "7" 30 = numS big := by decide +kernel
theorem big_int : PySem.intText? (timesS "7" 30) = some big ∧ (timesS "7" 30).length ≤ 640 := by
  rw [big_tx]
  have hb : big.natAbs < 10 ^ 30 := by decide
  obtain ⟨h1, h2, _⟩ := numP_tx hb
  unfold numP at h1
  split at h1
  · exact ⟨h1, by omega⟩
  · cases h1
theorem big_ok : DeedOk ("watch", [.num big]) := ⟨"b", form_at rfl, ⟨rfl, by decide⟩, True.intro⟩
theorem big_deed : Str.ofString "watch " ++ timesS "7" 30 = dTx ("watch", [.num big]) := by
  rw [big_tx]
  show _ = Txt.join (Str.ofString " ") [Str.ofString "watch", numS big]
  rw [TL.join_eq]
  decide +kernel
def t_law_1 (tb : Addr) : DS := (dSeq (dSet 6 (dCall sp_law_deed_in (dCons (dVar 4) dNil)))
    (dSeq (dSet 7 (dTry tb lawQ excs (xCall sp_read_deed (dCons (dVar 4) dNil))))
    (dIfS (dNot (dTru (dCall (sp_law_like 8) (dCons (dVar 7) (dCons (dIf (dTest (dBin (rIsD not) (dVar 6) (dC .non))) (dTup (dCons (dVar 6) (dCons (dC (.str "")) (dCons (dC .non) dNil)))) (dTup (dCons (dC .non) (dCons (dC (.str "BadText")) (dCons (dC (.int 0)) dNil))))) dNil))))) (dRet (dC (.bl false))) dNext)))
def t_law_2 (tb : Addr) : DS := (dRet (dUn rAllD (dLc (iLst (dVar 3)) (.name 4) dYes (dCall (sp_law_like 8) (dCons (dRef tb lawQ excs (xCall sp_read_deed (dCons (dVar 4) dNil))) (dCons (dTup (dCons (dC (.str "BadText")) (dCons (dC (.int 0)) dNil))) dNil))) [4])))
def t_law_3 (tb : Addr) : DS := (dSeq (dSet 3 (dLst (dCons (dC (.str "")) (dCons (dC (.str " ")) (dCons (dC (.str "come")) (dCons (dC (.str "come x")) (dCons (dC (.str "leave")) (dCons (dC (.str "leave A")) (dCons (dC (.str "leave abcdefg")) (dCons (dC (.str "sign ab")) (dCons (dC (.str "sign ")) (dCons (dC (.str "sign A")) (dCons (dC (.str "said a 0")) dNil)))))))))))))
    (dSeq (dSet 3 (dBin rAddD (dVar 3) (dLst (dCons (dC (.str "said 0")) (dCons (dC (.str "said 0 a ")) (dCons (dC (.str " said 0 a")) (dCons (dC (.str "said 00 a")) (dCons (dC (.str "said -0 a")) (dCons (dC (.str "said +1 a")) (dCons (dC (.str "unsay")) (dCons (dC (.str "unsay a")) (dCons (dC (.str "undo")) dNil))))))))))))
    (dSeq (dSet 3 (dBin rAddD (dVar 3) (dLst (dCons (dC (.str "watch 1 2")) (dCons (dC (.str "watch 01")) (dCons (dC (.str "unwatch -")) (dCons (dC (.str "Come x/-/0/0")) (dCons (dBin rAddD (dC (.str "watch ")) (dBin rMulT (dC (.str "7")) (dC (.int 31)))) (dCons (dC (.str "come x/-/0/0 0")) (dCons (dC (.str "many")) dNil))))))))))
    (dSeq (dIfS (dNot (dTru (dCall (sp_law_like 8) (dCons (dCall sp_read_deed (dCons (dBin rAddD (dC (.str "watch ")) (dBin rMulT (dC (.str "7")) (dC (.int 30)))) dNil)) (dCons (dTup (dCons (dC (.str "watch")) (dCons (dUn rIntD (dBin rMulT (dC (.str "7")) (dC (.int 30)))) dNil))) dNil))))) (dRet (dC (.bl false))) dNext)
    (t_law_2 tb)))))
def t_law (tb : Addr) : DS := (dSeq (dSet 1 (dCall sp_law_bag (dCons (dVar 0) dNil)))
    (dSeq (dFor (iRange1 (dCons (dC (.int 5)) dNil)) (.name 2) (dSeq (dSet 4 (dCall sp_law_deed_text (dCons (dCall sp_law_of (dCons (dVar 1) (dCons (dCall sp_law_every_deed (dCons (dVar 1) (dCons (dCall sp_law_names (dCons (dVar 1) (dCons (dC (.int 3)) dNil))) (dCons (dCall sp_law_signs (dCons (dVar 1) (dCons (dC (.int 2)) dNil))) dNil)))) dNil))) dNil)))
    (dSeq (dFor (iRange1 (dCons (dBin rAddD (dC (.int 1)) (dCall sp_law_pull (dCons (dVar 1) (dCons (dC (.int 2)) dNil)))) dNil)) (.name 5) (dSet 4 (dCall sp_law_bent_text (dCons (dVar 1) (dCons (dVar 4) (dCons (dLst (dCons (dC (.str " ")) (dCons (dC (.str "0")) (dCons (dC (.str "-")) (dCons (dC (.str "a")) (dCons (dC (.str "A")) (dCons (dC (.str "/")) (dCons (dC (.str "1")) (dCons (dC (.str ";")) (dCons (dC (.str "\n")) dNil)))))))))) dNil))))))
    (t_law_1 tb))))
    (t_law_3 tb)))
section
variable {p tb : Addr}
theorem r_law_3 {M : Mp} (hT : M tb = some (.tbl lawQ)) {Q : DK} (q : ∀ M', Q (.bl true) M') {nx : DEnv → Mp → Prop} (e0 e1 e2 e3 e4 e5 e6 e7 : Option D) :
    t_law_3 tb { nx := nx, rt := Q } [e0, e1, e2, e3, e4, e5, e6, e7] M := by
  walk_at "w"
  refine ⟨by decide +kernel, ?_⟩
  walk_at "w"
  refine ⟨⟨by decide, by decide, by decide⟩, ?_⟩
  walk_at "w"
  refine ⟨by decide +kernel, ?_⟩
  walk_at "w"
  refine ⟨by decide +kernel, ?_⟩
  walk_at "w"
  refine ⟨⟨by decide, by decide, by decide⟩, ?_⟩
  walk_at "w"
  refine ⟨by decide +kernel, ?_⟩
  walk_at "w"
  rw [show Str.ofString "watch " ++ timesS (Str.ofString "7") (Int.toNat 30) = dTx ("watch", [.num big]) from big_deed]
  refine ⟨_, rfl, (dTx_ok big_ok).1, by have := (dTx_ok big_ok).2; omega, fun d hd => ?_, fun hd => ?_⟩
  · rw [deed_tx big_ok] at hd
    cases hd
    walk_at "w"
    refine ⟨⟨by decide, by decide, by decide⟩, ?_⟩
    walk_at "w"
    rw [show PySem.intText? (timesS (Str.ofString "7") (Int.toNat 30)) = some big from big_int.1]
    refine ⟨big_int.2, ?_⟩
    walk_at "w"
    have l0 := dD_le6 ("watch", [.num big])
    refine ⟨_, _, rfl, le_mono (show 6 ≤ 7 by omega) l0, le_mono (show 6 ≤ 7 by omega) l0, by decide, ?_⟩
    rw [show sameD (dD ("watch", [.num big])) (.tup [.str "watch", .int big]) = true from same_self (d := dD ("watch", [.num big])) l0]
    walk_at "w"
    refine lc_map (fun _ => .bl true) (fun d hd K1 K2 k1 => ?_) ?_
    · have hd : d ∈ odds.map D.str := hd
      obtain ⟨x, hx, rfl⟩ := List.mem_map.mp hd
      obtain ⟨xok, xl⟩ := odds_ok x hx
      walk_at "w"
      refine ⟨hT, ?_⟩
      walk_at "w"
      refine ⟨x, rfl, xok, xl, fun w2 hw2 => ?_, fun hw2 => ?_⟩
      · rw [odds_bad x hx] at hw2; cases hw2
      · refine ⟨List.mem_cons_self, _, _, rfl, field_text, ?_⟩
        walk_at "w"
        refine ⟨.tup [.str "BadText", .int 0], .tup [.str "BadText", .int 0], rfl, rfl, rfl, by decide, ?_⟩
        rw [same_self (n := 7) rfl]
        exact k1
    · walk_at "w"
      exact q _
  · rw [deed_tx big_ok] at hd; cases hd
end
theorem r_law (tb : Addr) (ds : List D) (M : Mp) (Q : DK) (E : DX) (hl : ds.length = 1) (h : sp_lawT tb ds M Q E) : t_law tb { nx := fun _ M' => Q .non M', rt := Q } (startD ["_law_script", "_law_bag_here", "_law_turn", "_law_odd", "_law_text", "_law_bend", "_law_due", "_law_found"] ds) M := by
  obtain ⟨ns, rfl, hM, q⟩ := h
  have hT : M tb = some (.tbl lawQ) := by rw [hM, mupd_same]
  walk_at "w"
  refine ⟨ns, rfl, fun p b hp hb => ?_⟩
  have hpt : tb ≠ p := fun e => by rw [← e, hT] at hp; cases hp
  walk_at "w"
  refine ⟨⟨by decide, by decide⟩, ?_⟩
  walk_at "w"
  refine for_inv (fun i env M' => M' tb = some (.tbl lawQ) ∧ (∃ b', Bag.Ok b' ∧ M' p = some (.lst b'.l)) ∧ ∃ e0 e2 e3 e4 e5 e6 e7, env = [e0, some (.ref p), e2, e3, e4, e5, e6, e7]) ⟨by rw [mupd_ne hpt]; exact hT, ⟨b, hb, mupd_same⟩, _, _, _, _, _, _, _, rfl⟩
    (fun i x env M' K hx ⟨hT', ⟨b', hb', hM'⟩, e0, e2, e3, e4, e5, e6, e7, ee⟩ hK => ?_) fun env M' ⟨hT', _, e0, e2, e3, e4, e5, e6, e7, ee⟩ => ?_
  · subst ee
    walk_at "w"
    refine ⟨p, b', 3, rfl, hM', hb', by decide, by decide, fun xs b1 hb1 hxl hxn _ => ?_⟩
    walk_at "w"
    refine ⟨p, b1, 2, rfl, mupd_same, hb1, by decide, by decide, fun cs b2 hb2 hcs c0 c1 => ?_⟩
    rw [mupd_mupd]
    walk_at "w"
    refine ⟨p, b2, xs, cs, rfl, mupd_same, hb2, by omega, by omega, hxn, hcs, c0, by omega, fun b3 w a b4 y k hb3 hw ha hb hy hk => ?_⟩
    rw [mupd_mupd]
    have ok := every_ok hw ha hb hy hk
    have ln : (everyD w a b4 y k).length = 9 := rfl
    generalize everyD w a b4 y k = Ds at ok ln ⊢
    walk_at "w"
    refine ⟨p, b3, _, Ds.map dD, rfl, mupd_same, hb3, by rw [List.length_map]; omega, by rw [List.length_map]; omega, .inl ⟨rfl, fun e => by cases e⟩, fun z b5 hb5 hz => ?_⟩
    obtain ⟨d, hdm, rfl⟩ := List.mem_map.mp hz
    have hd := ok d hdm
    obtain ⟨dok, dl⟩ := dTx_ok hd
    rw [mupd_mupd]
    have hT5 : (mupd M' p (.lst b5.l)) tb = some (.tbl lawQ) := by rw [mupd_ne hpt]; exact hT'
    have hM5 : (mupd M' p (.lst b5.l)) p = some (.lst b5.l) := mupd_same
    generalize mupd M' p (.lst b5.l) = M5 at hT5 hM5 ⊢
    walk_at "w"
    refine ⟨d, hd, rfl, ?_⟩
    walk_at "w"
    refine ⟨p, b5, 2, rfl, hM5, hb5, by decide, by decide, fun r2 b6 hb6 r20 r21 => ?_⟩
    walk_at "w"
    refine ⟨⟨by omega, by omega⟩, ?_⟩
    have hn : (1 + r2).toNat ≤ 2 := by omega
    have hT6 : (mupd M5 p (.lst b6.l)) tb = some (.tbl lawQ) := by rw [mupd_ne hpt]; exact hT5
    generalize (1 + r2).toNat = n at hn ⊢
    refine for_inv (fun i env M2 => M2 tb = some (.tbl lawQ) ∧ (∃ b', Bag.Ok b' ∧ M2 p = some (.lst (Bag.l b'))) ∧ ∃ (x4 : Str) (e5 : Option D), SOk x4 ∧ x4.length ≤ 200 + 2 * i ∧ env = [e0, some (.ref p), some x, e3, some (.str x4), e5, e6, e7])
      ⟨hT6, ⟨b6, hb6, mupd_same⟩, dTx d, e5, dok, dl, rfl⟩ (fun i y env M2 K2 hy ⟨hT2, ⟨b', hb', hM2⟩, x4, e5, xok, xl, ee⟩ hK2 => ?_) fun env M2 ⟨hT2, ⟨b', hb', hM2⟩, x4, e5, xok, xl, ee⟩ => ?_
    · subst ee
      obtain ⟨hi, rfl⟩ := rng_at hy
      walk_at "w"
      refine ⟨p, b', x4, bends, rfl, hM2, hb', xok, by omega, by decide, by decide, bends_ok, fun y b6 hb6 yok yl => ?_⟩
      exact hK2 _ _ ⟨by rw [mupd_ne hpt]; exact hT2, ⟨b6, hb6, mupd_same⟩, y, _, yok, by omega, rfl⟩
    · subst ee
      rw [rng_length] at xl
      walk_at "w"
      refine ⟨x4, rfl, xok, by omega, ?_⟩
      walk_at "w"
      refine ⟨hT2, ?_⟩
      walk_at "w"
      refine ⟨x4, rfl, xok, by omega, fun d2 hd2 => ?_, fun hd2 => ?_⟩
      · rw [hd2]
        have hle : D.le 7 (.tup [dD d2, .str "", .non]) = true := by
          show (D.le 6 (dD d2) && (D.le 6 (.str "") && (D.le 6 .non && true))) = true
          rw [dD_le6]; rfl
        walk_at "w"
        refine ⟨.tup [dD d2, .str "", .non], .tup [dD d2, .str "", .non], rfl, hle, hle, by decide, ?_⟩
        rw [same_self hle]
        walk_at "w"
        exact hK _ _ ⟨hT2, ⟨b', hb', hM2⟩, _, _, _, _, _, _, _, rfl⟩
      · rw [hd2]
        refine ⟨List.mem_cons_self, _, _, rfl, field_text, ?_⟩
        walk_at "w"
        refine ⟨.tup [.non, .str "BadText", .int 0], .tup [.non, .str "BadText", .int 0], rfl, rfl, rfl, by decide, ?_⟩
        rw [same_self (n := 7) rfl]
        walk_at "w"
        exact hK _ _ ⟨hT2, ⟨b', hb', hM2⟩, _, _, _, _, _, _, _, rfl⟩
  · subst ee
    exact r_law_3 hT' q _ _ _ _ _ _ _ _
end L3
set_option Elab.async false
set_option linter.all false
set_option maxRecDepth 100000
set_option maxHeartbeats 0
namespace L3
open PySem PySem.Spec PyProof.Rows L2
abbrev N_law_bag : List Str := ["_law_script", "_law_salt", "_law_cell"]
theorem sc_law_bag : FnScope N_law_bag ["_law_script"] (defScope s_law_bag) := ⟨rfl, rfl, rfl, by decide +kernel, rfl, by decide +kernel, by decide +kernel⟩
abbrev N_law_writer_text : List Str := ["_law_writer_here", "_law_rows", "_law_place", "_law_sign", "_law_to"]
theorem sc_law_writer_text : FnScope N_law_writer_text ["_law_writer_here"] (defScope s_law_writer_text) := ⟨rfl, rfl, rfl, by decide +kernel, rfl, by decide +kernel, by decide +kernel⟩
abbrev N_law_deed_text : List Str := ["_law_deed", "_law_thing"]
theorem sc_law_deed_text : FnScope N_law_deed_text ["_law_deed"] (defScope s_law_deed_text) := ⟨rfl, rfl, rfl, by decide +kernel, rfl, by decide +kernel, by decide +kernel⟩
abbrev N_law_pull : List Str := ["_law_bag_here", "_law_many", "_law_seed", "_law_cell", "_law_got"]
theorem sc_law_pull : FnScope N_law_pull ["_law_bag_here", "_law_many"] (defScope s_law_pull) := ⟨rfl, rfl, rfl, by decide +kernel, rfl, by decide +kernel, by decide +kernel⟩
abbrev N_law_of : List Str := ["_law_bag_here", "_law_things"]
theorem sc_law_of : FnScope N_law_of ["_law_bag_here", "_law_things"] (defScope s_law_of) := ⟨rfl, rfl, rfl, by decide +kernel, rfl, by decide +kernel, by decide +kernel⟩
abbrev N_law_farB : List Str := ["_law_bag_here", "_law_figure", "_law_near", "_law_wide"]
theorem sc_law_farB : FnScope N_law_farB ["_law_bag_here"] (defScope s_law_farB) := ⟨rfl, rfl, rfl, by decide +kernel, rfl, by decide +kernel, by decide +kernel⟩
abbrev N_law_writer : List Str := ["_law_bag_here", "_law_name", "_law_places", "_law_signs_here", "_law_thick", "_law_lines", "_law_place", "_law_counts", "_law_sign"]
theorem sc_law_writer : FnScope N_law_writer ["_law_bag_here", "_law_name", "_law_places", "_law_signs_here", "_law_thick"] (defScope s_law_writer) := ⟨rfl, rfl, rfl, by decide +kernel, rfl, by decide +kernel, by decide +kernel⟩
abbrev N_law_every_deed : List Str := ["_law_bag_here", "_law_pool", "_law_letters_here", "_law_figure", "_law_writer_here", "_law_found", "_law_a", "_law_b"]
theorem sc_law_every_deed : FnScope N_law_every_deed ["_law_bag_here", "_law_pool", "_law_letters_here"] (defScope s_law_every_deed) := ⟨rfl, rfl, rfl, by decide +kernel, rfl, by decide +kernel, by decide +kernel⟩
abbrev N_law_letters : List Str := []
theorem sc_law_letters : FnScope N_law_letters [] (defScope s_law_letters) := ⟨rfl, rfl, rfl, by decide +kernel, rfl, by decide +kernel, by decide +kernel⟩
abbrev N_law_names : List Str := ["_law_bag_here", "_law_many", "_law_step", "_law_k", "_law_size", "_law_letters_here", "_law_at", "_law_start", "_law_base", "_law_found", "_law_sign", "_law_name"]
theorem sc_law_names : FnScope N_law_names ["_law_bag_here", "_law_many"] (defScope s_law_names) := ⟨rfl, rfl, rfl, by decide +kernel, rfl, by decide +kernel, by decide +kernel⟩
abbrev N_law_signs : List Str := ["_law_bag_here", "_law_limit", "_law_start", "_law_step", "_law_many", "_law_letters_here", "_law_k"]
theorem sc_law_signs : FnScope N_law_signs ["_law_bag_here", "_law_limit"] (defScope s_law_signs) := ⟨rfl, rfl, rfl, by decide +kernel, rfl, by decide +kernel, by decide +kernel⟩
abbrev N_law_bent_text : List Str := ["_law_bag_here", "_law_text", "_law_signs_here", "_law_sign", "_law_at", "_law_pick"]
theorem sc_law_bent_text : FnScope N_law_bent_text ["_law_bag_here", "_law_text", "_law_signs_here"] (defScope s_law_bent_text) := ⟨rfl, rfl, rfl, by decide +kernel, rfl, by decide +kernel, by decide +kernel⟩
abbrev N_law_is_name : List Str := ["_law_text", "_law_sign"]
theorem sc_law_is_name : FnScope N_law_is_name ["_law_text"] (defScope s_law_is_name) := ⟨rfl, rfl, rfl, by decide +kernel, rfl, by decide +kernel, by decide +kernel⟩
abbrev N_law_arrow_in : List Str := ["_law_text", "_law_good"]
theorem sc_law_arrow_in : FnScope N_law_arrow_in ["_law_text"] (defScope s_law_arrow_in) := ⟨rfl, rfl, rfl, by decide +kernel, rfl, by decide +kernel, by decide +kernel⟩
abbrev N_law_is_writer : List Str := ["_law_thing", "_law_keys", "_law_rising", "_law_place", "_law_sign", "_law_to", "_law_good", "_law_arrow", "_law_k"]
theorem sc_law_is_writer : FnScope N_law_is_writer ["_law_thing"] (defScope s_law_is_writer) := ⟨rfl, rfl, rfl, by decide +kernel, rfl, by decide +kernel, by decide +kernel⟩
abbrev N_law_writer_in : List Str := ["_law_text", "_law_parts", "_law_rows", "_law_writer_here", "_law_row", "_law_part"]
theorem sc_law_writer_in : FnScope N_law_writer_in ["_law_text"] (defScope s_law_writer_in) := ⟨rfl, rfl, rfl, by decide +kernel, rfl, by decide +kernel, by decide +kernel⟩
abbrev N_law_number_in : List Str := ["_law_text", "_law_figures", "_law_one"]
theorem sc_law_number_in : FnScope N_law_number_in ["_law_text"] (defScope s_law_number_in) := ⟨rfl, rfl, rfl, by decide +kernel, rfl, by decide +kernel, by decide +kernel⟩
abbrev N_law_deed_in : List Str := ["_law_text", "_law_words", "_law_forms", "_law_kinds", "_law_found", "_law_kind", "_law_word", "_law_good"]
theorem sc_law_deed_in : FnScope N_law_deed_in ["_law_text"] (defScope s_law_deed_in) := ⟨rfl, rfl, rfl, by decide +kernel, rfl, by decide +kernel, by decide +kernel⟩
abbrev N_law_field : List Str := ["_law_e", "_law_plain"]
theorem sc_law_field : FnScope N_law_field ["_law_e"] (defScope s_law_field) := ⟨rfl, rfl, rfl, by decide +kernel, rfl, by decide +kernel, by decide +kernel⟩
abbrev N_law_tried : List Str := ["_law_ask", "_law_told", "_law_word", "_law_field_here", "_law_e"]
theorem sc_law_tried : FnScope N_law_tried ["_law_ask"] (defScope s_law_tried) := ⟨rfl, rfl, rfl, by decide +kernel, rfl, by decide +kernel, by decide +kernel⟩
abbrev N_arrow_in : List Str := ["text"]
theorem sc_arrow_in : FnScope N_arrow_in ["text"] (defScope s_arrow_in) := ⟨rfl, rfl, rfl, by decide +kernel, rfl, by decide +kernel, by decide +kernel⟩
abbrev N_is_name : List Str := ["text", "sign"]
theorem sc_is_name : FnScope N_is_name ["text"] (defScope s_is_name) := ⟨rfl, rfl, rfl, by decide +kernel, rfl, by decide +kernel, by decide +kernel⟩
abbrev N_is_sign : List Str := ["text"]
theorem sc_is_sign : FnScope N_is_sign ["text"] (defScope s_is_sign) := ⟨rfl, rfl, rfl, by decide +kernel, rfl, by decide +kernel, by decide +kernel⟩
abbrev N_is_arrow : List Str := ["arrow", "place", "sign", "to"]
theorem sc_is_arrow : FnScope N_is_arrow ["arrow"] (defScope s_is_arrow) := ⟨rfl, rfl, rfl, by decide +kernel, rfl, by decide +kernel, by decide +kernel⟩
abbrev N_is_writer : List Str := ["thing", "keys", "name", "arrows", "patience", "cap", "arrow"]
theorem sc_is_writer : FnScope N_is_writer ["thing"] (defScope s_is_writer) := ⟨rfl, rfl, rfl, by decide +kernel, rfl, by decide +kernel, by decide +kernel⟩
abbrev N_writer_in : List Str := ["text", "parts", "arrows", "writer", "name", "rows", "patience", "cap", "row"]
theorem sc_writer_in : FnScope N_writer_in ["text"] (defScope s_writer_in) := ⟨rfl, rfl, rfl, by decide +kernel, rfl, by decide +kernel, by decide +kernel⟩
abbrev N_number_in : List Str := ["word", "figures", "sign"]
theorem sc_number_in : FnScope N_number_in ["word"] (defScope s_number_in) := ⟨rfl, rfl, rfl, by decide +kernel, rfl, by decide +kernel, by decide +kernel⟩
abbrev N_thing_in : List Str := ["kind", "word", "good"]
theorem sc_thing_in : FnScope N_thing_in ["kind", "word"] (defScope s_thing_in) := ⟨rfl, rfl, rfl, by decide +kernel, rfl, by decide +kernel, by decide +kernel⟩
abbrev N_deed_in : List Str := ["text", "form", "things", "word", "rows", "kind", "row"]
theorem sc_deed_in : FnScope N_deed_in ["text"] (defScope s_deed_in) := ⟨rfl, rfl, rfl, by decide +kernel, rfl, by decide +kernel, by decide +kernel⟩
abbrev N_InkError___init__ : List Str := ["self", "word"]
theorem sc_InkError___init__ : FnScope N_InkError___init__ ["self", "word"] (defScope s_InkError___init__) := ⟨rfl, rfl, rfl, by decide +kernel, rfl, by decide +kernel, by decide +kernel⟩
abbrev N_BadText___init__ : List Str := ["self", "at"]
theorem sc_BadText___init__ : FnScope N_BadText___init__ ["self", "at"] (defScope s_BadText___init__) := ⟨rfl, rfl, rfl, by decide +kernel, rfl, by decide +kernel, by decide +kernel⟩
abbrev N_read_deed : List Str := ["text", "deed"]
theorem sc_read_deed : FnScope N_read_deed ["text"] (defScope s_read_deed) := ⟨rfl, rfl, rfl, by decide +kernel, rfl, by decide +kernel, by decide +kernel⟩
abbrev N_law_like : List Str := ["_law_found", "_law_due", "_law_one", "_law_other"]
theorem sc_law_like : FnScope N_law_like ["_law_found", "_law_due"] (defScope s_law_like) := ⟨rfl, rfl, rfl, by decide +kernel, rfl, by decide +kernel, by decide +kernel⟩
abbrev N_law_refused : List Str := ["_law_ask"]
theorem sc_law_refused : FnScope N_law_refused ["_law_ask"] (defScope s_law_refused) := ⟨rfl, rfl, rfl, by decide +kernel, rfl, by decide +kernel, by decide +kernel⟩
abbrev N_law : List Str := ["_law_script", "_law_bag_here", "_law_turn", "_law_odd", "_law_text", "_law_bend", "_law_due", "_law_found"]
theorem sc_law : FnScope N_law ["_law_script"] (defScope s_law) := ⟨rfl, rfl, rfl, by decide +kernel, rfl, by decide +kernel, by decide +kernel⟩
structure Txt (w : World) (K : PySem.W.Frag) (mg : Str → Option Value) : Prop where
  c_FIGURES_deeds : ∃ t, mg "FIGURES_deeds" = some (.str "0123456789" t)
  c_FIGURES_writers : ∃ t, mg "FIGURES_writers" = some (.str "0123" t)
  c_LETTERS : ∃ t, mg "LETTERS" = some (.str "abcdefghijklmnopqrstuvwxyz" t)
  c_LONGEST : ∃ t, mg "LONGEST" = some (.int 6 t)
  c_MOST_ARROWS : ∃ t, mg "MOST_ARROWS" = some (.int 9 t)
  c_MOST_COUNT : ∃ t, mg "MOST_COUNT" = some (.int 3 t)
  c_MOST_FIGURES : ∃ t, mg "MOST_FIGURES" = some (.int 30 t)
  c_MOST_PLACE : ∃ t, mg "MOST_PLACE" = some (.int 2 t)
  g_all : mg "all" = none
  g_bool : mg "bool" = none
  g_int : mg "int" = none
  g_isinstance : mg "isinstance" = none
  g_len : mg "len" = none
  g_list : mg "list" = none
  g_max : mg "max" = none
  g_range : mg "range" = none
  g_set : mg "set" = none
  g_sorted : mg "sorted" = none
  g_str : mg "str" = none
  g_tuple : mg "tuple" = none
  g_zip : mg "zip" = none
  m_FORMS : mg "FORMS" = some (.ref (He.ga K "FORMS")) ∧ TblAt K w (He.ga K "FORMS") tb_FORMS
  x_InkError : InkF K mg .ve "InkError"
  i_InkError : ∃ fd dvs, FunD K "__init__" "InkError.__init__" (defArgs s_InkError___init__) (defBody s_InkError___init__) (defScope s_InkError___init__) dvs [] (He.ma K (He.ga K "InkError") "__init__") fd ∧ dvs.length = 1
  x_Missing : mg "Missing" = some (.ref (He.ga K "Missing"))
  x_NothingLeft : mg "NothingLeft" = some (.ref (He.ga K "NothingLeft"))
  g_ValueError : mg "ValueError" = none
  x_BadText : BadF K mg .ve "BadText" ["at"] csN
  i_BadText : ∃ fd, FunD K "__init__" "BadText.__init__" (defArgs s_BadText___init__) (defBody s_BadText___init__) (defScope s_BadText___init__) [] [] (He.ma K (He.ga K "BadText") "__init__") fd
  xf : ∀ nm ∈ excs, XfC K (He.ga K nm) ∧ PySem.W.findIn K (.ref (He.ga K nm)) "word" = some none
  noF : ∀ nm ∈ excs, ∀ f ∈ (["word", "name", "most", "strip", "number", "at"] : List Str), PySem.W.findIn K (.ref (He.ga K nm)) f = some none
  hcs : ∀ nm ∈ excs, PySem.W.exmAny K (.ref (He.ga K nm)) (csE K) = some true
  d_law_bag : DefAt K mg "_law_bag" s_law_bag
  d_law_writer_text : DefAt K mg "_law_writer_text" s_law_writer_text
  d_law_deed_text : DefAt K mg "_law_deed_text" s_law_deed_text
  d_law_pull : DefAt K mg "_law_pull" s_law_pull
  d_law_of : DefAt K mg "_law_of" s_law_of
  d_law_farB : DefAt K mg "_law_far" s_law_farB
  d_law_writer : DefAt K mg "_law_writer" s_law_writer
  d_law_every_deed : DefAt K mg "_law_every_deed" s_law_every_deed
  d_law_letters : DefAt K mg "_law_letters" s_law_letters
  d_law_names : DefAt K mg "_law_names" s_law_names
  d_law_signs : DefAt K mg "_law_signs" s_law_signs
  d_law_bent_text : DefAt K mg "_law_bent_text" s_law_bent_text
  d_law_is_name : DefAt K mg "_law_is_name" s_law_is_name
  d_law_arrow_in : DefAt K mg "_law_arrow_in" s_law_arrow_in
  d_law_is_writer : DefAt K mg "_law_is_writer" s_law_is_writer
  d_law_writer_in : DefAt K mg "_law_writer_in" s_law_writer_in
  d_law_number_in : DefAt K mg "_law_number_in" s_law_number_in
  d_law_deed_in : DefAt K mg "_law_deed_in" s_law_deed_in
  d_law_field : DefAt K mg "_law_field" s_law_field
  d_law_tried : DefAt K mg "_law_tried" s_law_tried
  d_arrow_in : DefAt K mg "arrow_in" s_arrow_in
  d_is_name : DefAt K mg "is_name" s_is_name
  d_is_sign : DefAt K mg "is_sign" s_is_sign
  d_is_arrow : DefAt K mg "is_arrow" s_is_arrow
  d_is_writer : DefAt K mg "is_writer" s_is_writer
  d_writer_in : DefAt K mg "writer_in" s_writer_in
  d_number_in : DefAt K mg "number_in" s_number_in
  d_thing_in : DefAt K mg "thing_in" s_thing_in
  d_deed_in : DefAt K mg "deed_in" s_deed_in
  d_read_deed : DefAt K mg "read_deed" s_read_deed
  d_law_like : DefAt K mg "_law_like" s_law_like
  d_law_refused : DefAt K mg "_law_refused" s_law_refused
  d_law : DefAt K mg "law" s_law
section
variable {P : Program} {w : World} {K : PySem.W.Frag} {mg : Str → Option Value} {base : Heap}
theorem ok_law_bag (T : Txt w K mg) : DefOk P w K mg base (1) "_law_bag" 1 sp_law_bag :=
  have sc := sc_law_bag
  def_ok (N := N_law_bag) (t := t_law_bag) T.d_law_bag sc (fun _ _ _ _ _ _ us hl => match us, hl with | [_], _ => rfl) (fun f cdv A outer s H E hr => (pdss_cons (pds_set (i := 1) sc.nd pd_int)
    (pdss_cons (pds_for PassesOwn.never (pdi_lst (pd_slice (dv 0) pdo_none (pdo_some pd_int))) (pdg_name (i := 2) sc.nd) (pdss_one (pds_set (i := 1) sc.nd (pd_op opd_mod (pd_op opd_add (pd_op opd_add (pd_op opd_mulI (dv 1) pd_int) (pd_op opd_mod (dv 2) pd_int)) pd_int) pd_int))))
    (pdss_one (pds_ret (pd_lstM (pda_cons (pd_type calld_list T.g_list (pd_slice (dv 0) pdo_none (pdo_some pd_int))) (pda_cons pd_int (pda_cons pd_int (pda_cons (dv 1) pda_nil)))))))))) r_law_bag
theorem ok_law_writer_text (T : Txt w K mg) : DefOk P w K mg base (1) "_law_writer_text" 1 sp_law_writer_text :=
  have sc := sc_law_writer_text
  def_ok (N := N_law_writer_text) (t := t_law_writer_text) T.d_law_writer_text sc (fun _ _ _ _ _ _ us hl => match us, hl with | [_], _ => rfl) (fun f cdv A outer s H E hr => (pdss_cons (pds_setLc (i := 1) (own := [("_law_place", 2), ("_law_sign", 3), ("_law_to", 4)]) sc.nd (sw_true rfl rfl rfl (by decide +kernel)) (pdi_tup (pd_ix hr (dv 0) pd_int)) (blkOk_by (own := [("_law_place", 2), ("_law_sign", 3), ("_law_to", 4)]) (N := N_law_writer_text) (sc := defScope s_law_writer_text) (by decide +kernel)) (fun _ _ _ _ _ => (pdg_tup (pdgs_cons (pdg_name (i := 2) sc.nd) (pdgs_cons (pdg_name (i := 3) sc.nd) (pdgs_cons (pdg_name (i := 4) sc.nd) pdgs_nil))))) (fun _ _ _ _ _ => pdts_nil) (fun _ _ _ _ _ => (pd_op opd_add (pd_op opd_add (pd_type calld_str T.g_str (dv 2)) (dv 3)) (pd_type calld_str T.g_str (dv 4)))))
    (pdss_one (pds_ret (pd_op opd_add (pd_op opd_add (pd_op opd_add (pd_op opd_add (pd_op opd_add (pd_op opd_add (pd_ix hr (dv 0) pd_int) pd_str) (pd_or (pd_join pd_str (dv 1)) (pd_one pd_str))) pd_str) (pd_type calld_str T.g_str (pd_ix hr (dv 0) pd_int))) pd_str) (pd_type calld_str T.g_str (pd_ix hr (dv 0) pd_int))))))) r_law_writer_text
theorem ok_law_deed_text (T : Txt w K mg) (o_law_writer_text : DefOk P w K mg base (1) "_law_writer_text" 1 sp_law_writer_text) : DefOk P w K mg base (2) "_law_deed_text" 1 sp_law_deed_text :=
  have sc := sc_law_deed_text
  def_ok (N := N_law_deed_text) (t := t_law_deed_text) T.d_law_deed_text sc (fun _ _ _ _ _ _ us hl => match us, hl with | [_], _ => rfl) (fun f cdv A outer s H E hr => (pdss_cons (pds_if (pdt_cmp (opd_in hr) (pd_ix hr (dv 0) pd_int) (pd_tup (pda_cons pd_str (pda_cons pd_str pda_nil)))) (pdss_one (pds_ret (pd_op opd_add (pd_op opd_add (pd_ix hr (dv 0) pd_int) pd_str) (pd_call (o_law_writer_text.mono (by decide)) hr (pda_cons (pd_ix hr (dv 0) pd_int) pda_nil))))) pdss_nil)
    (pdss_one (pds_ret (pd_join pd_str (pd_lc (own := [("_law_thing", 1)]) sc.nd (pdi_tup (dv 0)) (blkOk_by (own := [("_law_thing", 1)]) (N := N_law_deed_text) (sc := defScope s_law_deed_text) (by decide +kernel)) (fun _ _ _ _ _ => (pdg_name (i := 1) sc.nd)) (fun _ _ _ _ _ => pdts_nil) (fun _ _ _ _ _ => (pd_type calld_str T.g_str (dv 1))))))))) r_law_deed_text
theorem ok_law_pull (T : Txt w K mg) : DefOk P w K mg base (1) "_law_pull" 2 sp_law_pull :=
  have sc := sc_law_pull
  def_ok (N := N_law_pull) (t := t_law_pull) T.d_law_pull sc (fun _ _ _ _ _ _ us hl => match us, hl with | [_, _], _ => rfl) (fun f cdv A outer s H E hr => (pdss_cons (pds_if (PW.pt (pdw_and (pdt_cmp (opd_eq hr) (pd_ix hr (dv 0) pd_int) pd_int) (pdw_and1 (pdt_cmp opd_lt (pd_ix hr (dv 0) pd_int) (pd_bltn calld_len T.g_len (pd_ix hr (dv 0) pd_int)))))) (pdss_cons (pds_set (i := 3) sc.nd (pd_ix hr (pd_ix hr (dv 0) pd_int) (pd_ix hr (dv 0) pd_int)))
    (pdss_cons (pds_setIx hr (pd_op opd_add (pd_ix hr (dv 0) pd_int) pd_int) (dv 0) pd_int)
    (pdss_one (pds_if (pdt_cmp opd_ge (dv 3) (pd_op opd_pow pd_int pd_int)) (pdss_one (pds_setIx hr (pd_op opd_subI (dv 3) (pd_op opd_pow pd_int pd_int)) (dv 0) pd_int)) (pdss_one (pds_setIx hr (pd_op opd_mod (pd_op opd_add (pd_op opd_add (pd_op opd_mulI (pd_ix hr (dv 0) pd_int) pd_int) (pd_op opd_mulI (pd_op opd_mod (dv 3) pd_int) pd_int)) pd_int) pd_int) (dv 0) pd_int)))))) pdss_nil)
    (pdss_cons (pds_if (pdt_cmp opd_gt (pd_ix hr (dv 0) pd_int) pd_int) (pdss_cons (pds_set (i := 4) sc.nd (pd_op opd_mod (pd_ix hr (dv 0) pd_int) (dv 1)))
    (pdss_cons (pds_setIx hr (pd_op opd_fdivW (pd_ix hr (dv 0) pd_int) (dv 1)) (dv 0) pd_int)
    (pdss_one (pds_ret (dv 4))))) pdss_nil)
    (pdss_cons (pds_set (i := 2) sc.nd (pd_ix hr (dv 0) pd_int))
    (pdss_cons (pds_setIx hr (pd_op opd_mod (pd_op opd_add (pd_op opd_add (pd_op opd_mulI (pd_op opd_mulI (dv 2) (dv 2)) pd_int) (pd_op opd_mulI (dv 2) pd_int)) pd_int) pd_int) (dv 0) pd_int)
    (pdss_one (pds_ret (pd_op opd_mod (pd_op opd_add (pd_op opd_fdivW (pd_ix hr (dv 0) pd_int) pd_int) (pd_op opd_mulI (pd_op opd_mod (pd_ix hr (dv 0) pd_int) pd_int) pd_int)) (dv 1))))))))) r_law_pull
theorem ok_law_of (T : Txt w K mg) (o_law_pull : DefOk P w K mg base (1) "_law_pull" 2 sp_law_pull) : DefOk P w K mg base (2) "_law_of" 2 sp_law_of :=
  have sc := sc_law_of
  def_ok (N := N_law_of) (t := t_law_of) T.d_law_of sc (fun _ _ _ _ _ _ us hl => match us, hl with | [_, _], _ => rfl) (fun f cdv A outer s H E hr => (pdss_one (pds_ret (pd_ix hr (dv 1) (pd_call (o_law_pull.mono (by decide)) hr (pda_cons (dv 0) (pda_cons (pd_bltn calld_len T.g_len (dv 1)) pda_nil))))))) r_law_of
theorem ok_law_farB (T : Txt w K mg) (o_law_pull : DefOk P w K mg base (1) "_law_pull" 2 sp_law_pull) (o_law_of : DefOk P w K mg base (2) "_law_of" 2 sp_law_of) : DefOk P w K mg base (3) "_law_far" 1 sp_law_farB :=
  have sc := sc_law_farB
  def_ok (N := N_law_farB) (t := t_law_farB) T.d_law_farB sc (fun _ _ _ _ _ _ us hl => match us, hl with | [_], _ => rfl) (fun f cdv A outer s H E hr => (pdss_cons (pds_par (i := 2) (j := 3) sc.nd (pda_cons (pd_op opd_add (pd_call (o_law_pull.mono (by decide)) hr (pda_cons (dv 0) (pda_cons pd_int pda_nil))) pd_int) (pda_cons (pd_op opd_add (pd_call (o_law_pull.mono (by decide)) hr (pda_cons (dv 0) (pda_cons (pd_op opd_pow pd_int pd_int) pda_nil))) pd_int) pda_nil)))
    (pdss_cons (pds_set (i := 1) sc.nd (pd_call (o_law_of.mono (by decide)) hr (pda_cons (dv 0) (pda_cons (pd_lst (pda_cons (dv 2) (pda_cons (dv 3) (pda_cons (pd_op opd_add (dv 3) (pd_op opd_pow pd_int pd_int)) pda_nil)))) pda_nil))))
    (pdss_one (pds_ret (pd_call (o_law_of.mono (by decide)) hr (pda_cons (dv 0) (pda_cons (pd_lst (pda_cons (dv 1) (pda_cons (pd_neg pd_int) (pda_cons (pd_op opd_subI pd_int (dv 1)) pda_nil)))) pda_nil)))))))) r_law_farB
theorem ok_law_writer (T : Txt w K mg) (o_law_pull : DefOk P w K mg base (1) "_law_pull" 2 sp_law_pull) (o_law_of : DefOk P w K mg base (2) "_law_of" 2 sp_law_of) : DefOk P w K mg base (3) "_law_writer" 5 sp_law_writer :=
  have sc := sc_law_writer
  def_ok (N := N_law_writer) (t := t_law_writer) T.d_law_writer sc (fun _ _ _ _ _ _ us hl => match us, hl with | [_, _, _, _, _], _ => rfl) (fun f cdv A outer s H E hr => (pdss_cons (pds_set (i := 5) sc.nd (pd_lstM pda_nil))
    (pdss_cons (pds_for PassesOwn.never (pdi_range1 T.g_range (pda_cons (dv 2) pda_nil)) (pdg_name (i := 6) sc.nd) (pdss_one (pds_for PassesOwn.never (pdi_lst (dv 3)) (pdg_name (i := 8) sc.nd) (pdss_one (pds_if (PW.pt (pdw_and (pdt_cmp opd_lt (pd_bltn calld_len T.g_len (dv 5)) pd_int) (pdw_and1 (pdt_cmp opd_lt (pd_call (o_law_pull.mono (by decide)) hr (pda_cons (dv 0) (pda_cons pd_int pda_nil))) (dv 4))))) (pdss_one (pds_expr (pd_append (dv 5) (pd_tup (pda_cons (dv 6) (pda_cons (dv 8) (pda_cons (pd_call (o_law_pull.mono (by decide)) hr (pda_cons (dv 0) (pda_cons (dv 2) pda_nil))) pda_nil))))))) pdss_nil)))))
    (pdss_cons (pds_frz 5 (pds_set (i := 7) sc.nd (pd_lst (pda_cons pd_int (pda_cons pd_int (pda_cons pd_int (pda_cons pd_int (pda_cons pd_int (pda_cons pd_int pda_nil)))))))))
    (pdss_one (pds_ret (pd_tup (pda_cons (dv 1) (pda_cons (pd_type calld_tuple T.g_tuple (dv 5)) (pda_cons (pd_call (o_law_of.mono (by decide)) hr (pda_cons (dv 0) (pda_cons (dv 7) pda_nil))) (pda_cons (pd_call (o_law_of.mono (by decide)) hr (pda_cons (dv 0) (pda_cons (dv 7) pda_nil))) pda_nil))))))))))) r_law_writer
theorem ok_law_every_deed (T : Txt w K mg) (o_law_of : DefOk P w K mg base (2) "_law_of" 2 sp_law_of) (o_law_farB : DefOk P w K mg base (3) "_law_far" 1 sp_law_farB) (o_law_pull : DefOk P w K mg base (1) "_law_pull" 2 sp_law_pull) (o_law_writer : DefOk P w K mg base (3) "_law_writer" 5 sp_law_writer) : DefOk P w K mg base (4) "_law_every_deed" 3 sp_law_every_deed :=
  have sc := sc_law_every_deed
  def_ok (N := N_law_every_deed) (t := t_law_every_deed) T.d_law_every_deed sc (fun _ _ _ _ _ _ us hl => match us, hl with | [_, _, _], _ => rfl) (fun f cdv A outer s H E hr => (pdss_cons (pds_par (i := 6) (j := 7) sc.nd (pda_cons (pd_call (o_law_of.mono (by decide)) hr (pda_cons (dv 0) (pda_cons (dv 1) pda_nil))) (pda_cons (pd_call (o_law_of.mono (by decide)) hr (pda_cons (dv 0) (pda_cons (dv 1) pda_nil))) pda_nil)))
    (pdss_cons (pds_set (i := 3) sc.nd (pd_call (o_law_of.mono (by decide)) hr (pda_cons (dv 0) (pda_cons (pd_lst (pda_cons pd_int (pda_cons pd_int (pda_cons pd_int (pda_cons (pd_call (o_law_farB.mono (by decide)) hr (pda_cons (dv 0) pda_nil)) (pda_cons (pd_op opd_subI (pd_op opd_subI (pd_op opd_pow pd_int pd_int) pd_int) (pd_call (o_law_pull.mono (by decide)) hr (pda_cons (dv 0) (pda_cons (pd_op opd_pow pd_int pd_int) pda_nil)))) pda_nil)))))) pda_nil))))
    (pdss_cons (pds_set (i := 4) sc.nd (pd_call (o_law_writer.mono (by decide)) hr (pda_cons (dv 0) (pda_cons (dv 6) (pda_cons (pd_op opd_add pd_int (pd_call (o_law_pull.mono (by decide)) hr (pda_cons (dv 0) (pda_cons pd_int pda_nil)))) (pda_cons (dv 2) (pda_cons (pd_call (o_law_of.mono (by decide)) hr (pda_cons (dv 0) (pda_cons (pd_lst (pda_cons pd_int (pda_cons pd_int (pda_cons pd_int pda_nil)))) pda_nil))) pda_nil)))))))
    (pdss_cons (pds_set (i := 5) sc.nd (pd_lst (pda_cons (pd_tup (pda_cons pd_str (pda_cons (dv 4) pda_nil))) (pda_cons (pd_tup (pda_cons pd_str (pda_cons (dv 7) pda_nil))) (pda_cons (pd_tup (pda_cons pd_str (pda_cons (dv 4) pda_nil))) (pda_cons (pd_tup (pda_cons pd_str (pda_cons (pd_call (o_law_of.mono (by decide)) hr (pda_cons (dv 0) (pda_cons (dv 2) pda_nil))) pda_nil))) pda_nil))))))
    (pdss_cons (pds_set (i := 5) sc.nd (pd_op opd_add (dv 5) (pd_lst (pda_cons (pd_tup (pda_cons pd_str (pda_cons (dv 3) (pda_cons (dv 6) pda_nil)))) (pda_cons (pd_tup (pda_cons pd_str (pda_cons (dv 3) (pda_cons (dv 7) pda_nil)))) (pda_cons (pd_tup (pda_cons pd_str (pda_cons (dv 3) pda_nil))) pda_nil))))))
    (pdss_one (pds_ret (pd_op opd_add (dv 5) (pd_lst (pda_cons (pd_tup (pda_cons pd_str (pda_cons (dv 3) pda_nil))) (pda_cons (pd_tup (pda_cons pd_str (pda_cons (dv 3) pda_nil))) pda_nil)))))))))))) r_law_every_deed
theorem ok_law_letters (T : Txt w K mg) : DefOk P w K mg base (1) "_law_letters" 0 sp_law_letters :=
  have sc := sc_law_letters
  def_ok (N := N_law_letters) (t := t_law_letters) T.d_law_letters sc (fun _ _ _ _ _ _ us hl => match us, hl with | [], _ => rfl) (fun f cdv A outer s H E hr => (pdss_one (pds_ret pd_str))) r_law_letters
theorem ok_law_names (T : Txt w K mg) (o_law_pull : DefOk P w K mg base (1) "_law_pull" 2 sp_law_pull) (o_law_letters : DefOk P w K mg base (1) "_law_letters" 0 sp_law_letters) (o_law_of : DefOk P w K mg base (2) "_law_of" 2 sp_law_of) : DefOk P w K mg base (3) "_law_names" 2 sp_law_names :=
  have sc := sc_law_names
  def_ok (N := N_law_names) (t := t_law_names) T.d_law_names sc (fun _ _ _ _ _ _ us hl => match us, hl with | [_, _], _ => rfl) (fun f cdv A outer s H E hr => (pdss_cons (pds_asg (pd_tup (pda_cons (pd_op opd_add pd_int (pd_call (o_law_pull.mono (by decide)) hr (pda_cons (dv 0) (pda_cons pd_int pda_nil)))) (pda_cons (pd_call0 (o_law_letters.mono (by decide)) hr) pda_nil))) (pdg_tup (pdgs_cons (pdg_name (i := 4) sc.nd) (pdgs_cons (pdg_name (i := 5) sc.nd) pdgs_nil))))
    (pdss_cons (pds_par (i := 6) (j := 7) sc.nd (pda_cons (pd_call (o_law_pull.mono (by decide)) hr (pda_cons (dv 0) (pda_cons (dv 4) pda_nil))) (pda_cons (pd_call (o_law_pull.mono (by decide)) hr (pda_cons (dv 0) (pda_cons pd_int pda_nil))) pda_nil)))
    (pdss_cons (pds_set (i := 2) sc.nd (pd_call (o_law_of.mono (by decide)) hr (pda_cons (dv 0) (pda_cons (pd_lst (pda_cons pd_int (pda_cons pd_int (pda_cons pd_int (pda_cons pd_int pda_nil))))) pda_nil))))
    (pdss_cons (pds_par (i := 8) (j := 9) sc.nd (pda_cons (pd_join pd_str (pd_lc (own := [("_law_k", 3)]) sc.nd (pdi_range1 T.g_range (pda_cons (dv 4) pda_nil)) (blkOk_by (own := [("_law_k", 3)]) (N := N_law_names) (sc := defScope s_law_names) (by decide +kernel)) (fun _ _ _ _ _ => (pdg_name (i := 3) sc.nd)) (fun _ _ _ _ _ => pdts_nil) (fun _ _ _ _ _ => (pd_call (o_law_of.mono (by decide)) hr (pda_cons (dv 0) (pda_cons (dv 5) pda_nil)))))) (pda_cons (pd_lstM pda_nil) pda_nil)))
    (pdss_cons (pds_for PassesOwn.never (pdi_range1 T.g_range (pda_cons (dv 1) pda_nil)) (pdg_name (i := 3) sc.nd) (pdss_cons (pds_set (i := 10) sc.nd (pd_ix hr (dv 5) (pd_op opd_mod (pd_op opd_add (dv 7) (pd_op opd_mulI (dv 2) (dv 3))) pd_int)))
    (pdss_cons (pds_set (i := 11) sc.nd (pd_op opd_add (pd_op opd_add (pd_slice (dv 8) pdo_none (pdo_some (dv 6))) (dv 10)) (pd_slice (dv 8) (pdo_some (pd_op opd_add (dv 6) pd_int)) pdo_none)))
    (pdss_one (pds_expr (pd_append (dv 9) (pd_if (pdt_cmp (opd_eq hr) (pd_call (o_law_pull.mono (by decide)) hr (pda_cons (dv 0) (pda_cons pd_int pda_nil))) pd_int) (pd_slice (dv 11) pdo_none (pdo_some (pd_bltn2 calld_max T.g_max (pd_op opd_add (dv 6) pd_int) (pd_op opd_subI (dv 4) (dv 3))))) (dv 11))))))))
    (pdss_one (pds_frz 9 (pds_ret (dv 9)))))))))) r_law_names
theorem ok_law_signs (T : Txt w K mg) (o_law_pull : DefOk P w K mg base (1) "_law_pull" 2 sp_law_pull) (o_law_of : DefOk P w K mg base (2) "_law_of" 2 sp_law_of) (o_law_letters : DefOk P w K mg base (1) "_law_letters" 0 sp_law_letters) : DefOk P w K mg base (3) "_law_signs" 2 sp_law_signs :=
  have sc := sc_law_signs
  def_ok (N := N_law_signs) (t := t_law_signs) T.d_law_signs sc (fun _ _ _ _ _ _ us hl => match us, hl with | [_, _], _ => rfl) (fun f cdv A outer s H E hr => (pdss_cons (pds_asg (pd_tup (pda_cons (pd_call (o_law_pull.mono (by decide)) hr (pda_cons (dv 0) (pda_cons pd_int pda_nil))) (pda_cons (pd_call (o_law_of.mono (by decide)) hr (pda_cons (dv 0) (pda_cons (pd_lst (pda_cons pd_int (pda_cons pd_int (pda_cons pd_int (pda_cons pd_int pda_nil))))) pda_nil))) pda_nil))) (pdg_tup (pdgs_cons (pdg_name (i := 2) sc.nd) (pdgs_cons (pdg_name (i := 3) sc.nd) pdgs_nil))))
    (pdss_cons (pds_asg (pd_tup (pda_cons (pd_op opd_add pd_int (pd_call (o_law_pull.mono (by decide)) hr (pda_cons (dv 0) (pda_cons (dv 1) pda_nil)))) (pda_cons (pd_call0 (o_law_letters.mono (by decide)) hr) pda_nil))) (pdg_tup (pdgs_cons (pdg_name (i := 4) sc.nd) (pdgs_cons (pdg_name (i := 5) sc.nd) pdgs_nil))))
    (pdss_one (pds_ret (pd_bltn (calld_sort hr) T.g_sorted (pd_lc (own := [("_law_k", 6)]) sc.nd (pdi_range1 T.g_range (pda_cons (dv 4) pda_nil)) (blkOk_by (own := [("_law_k", 6)]) (N := N_law_signs) (sc := defScope s_law_signs) (by decide +kernel)) (fun _ _ _ _ _ => (pdg_name (i := 6) sc.nd)) (fun _ _ _ _ _ => pdts_nil) (fun _ _ _ _ _ => (pd_ix hr (dv 5) (pd_op opd_mod (pd_op opd_add (dv 2) (pd_op opd_mulI (dv 3) (dv 6))) pd_int)))))))))) r_law_signs
theorem ok_law_bent_text (T : Txt w K mg) (o_law_pull : DefOk P w K mg base (1) "_law_pull" 2 sp_law_pull) (o_law_of : DefOk P w K mg base (2) "_law_of" 2 sp_law_of) : DefOk P w K mg base (3) "_law_bent_text" 3 sp_law_bent_text :=
  have sc := sc_law_bent_text
  def_ok (N := N_law_bent_text) (t := t_law_bent_text) T.d_law_bent_text sc (fun _ _ _ _ _ _ us hl => match us, hl with | [_, _, _], _ => rfl) (fun f cdv A outer s H E hr => (pdss_cons (pds_par (i := 4) (j := 5) sc.nd (pda_cons (pd_call (o_law_pull.mono (by decide)) hr (pda_cons (dv 0) (pda_cons (pd_op opd_add (pd_bltn calld_len T.g_len (dv 1)) pd_int) pda_nil))) (pda_cons (pd_call (o_law_pull.mono (by decide)) hr (pda_cons (dv 0) (pda_cons pd_int pda_nil))) pda_nil)))
    (pdss_cons (pds_set (i := 3) sc.nd (pd_call (o_law_of.mono (by decide)) hr (pda_cons (dv 0) (pda_cons (dv 2) pda_nil))))
    (pdss_cons (pds_if (pdt_cmp (opd_eq hr) (dv 5) pd_int) (pdss_one (pds_ret (pd_op opd_add (pd_slice (dv 1) pdo_none (pdo_some (dv 4))) (pd_slice (dv 1) (pdo_some (pd_op opd_add (dv 4) pd_int)) pdo_none)))) pdss_nil)
    (pdss_cons (pds_if (pdt_cmp (opd_eq hr) (dv 5) pd_int) (pdss_one (pds_ret (pd_op opd_add (pd_op opd_add (pd_slice (dv 1) pdo_none (pdo_some (dv 4))) (dv 3)) (pd_slice (dv 1) (pdo_some (pd_op opd_add (dv 4) pd_int)) pdo_none)))) pdss_nil)
    (pdss_one (pds_ret (pd_op opd_add (pd_op opd_add (pd_slice (dv 1) pdo_none (pdo_some (dv 4))) (pd_op opd_mulS (dv 3) (pd_op opd_subI (dv 5) pd_int))) (pd_slice (dv 1) (pdo_some (dv 4)) pdo_none))))))))) r_law_bent_text
theorem ok_law_is_name (T : Txt w K mg) (o_law_letters : DefOk P w K mg base (1) "_law_letters" 0 sp_law_letters) : DefOk P w K mg base (2) "_law_is_name" 1 sp_law_is_name :=
  have sc := sc_law_is_name
  def_ok (N := N_law_is_name) (t := t_law_is_name) T.d_law_is_name sc (fun _ _ _ _ _ _ us hl => match us, hl with | [_], _ => rfl) (fun f cdv A outer s H E hr => (pdss_one (pds_ret (pd_and (pd_chain opd_lt opd_lt pd_int (pd_bltn calld_len T.g_len (dv 0)) pd_int) (pd_one (pd_bltn calld_all T.g_all (pd_lc (own := [("_law_sign", 1)]) sc.nd (pdi_str (dv 0)) (blkOk_by (own := [("_law_sign", 1)]) (N := N_law_is_name) (sc := defScope s_law_is_name) (by decide +kernel)) (fun _ _ _ _ _ => (pdg_name (i := 1) sc.nd)) (fun _ _ _ _ _ => pdts_nil) (fun _ _ _ _ _ => (pd_cmp (opd_in hr) (dv 1) (pd_call0 (o_law_letters.mono (by decide)) hr)))))))))) r_law_is_name
theorem ok_law_arrow_in (T : Txt w K mg) (o_law_is_name : DefOk P w K mg base (2) "_law_is_name" 1 sp_law_is_name) : DefOk P w K mg base (3) "_law_arrow_in" 1 sp_law_arrow_in :=
  have sc := sc_law_arrow_in
  def_ok (N := N_law_arrow_in) (t := t_law_arrow_in) T.d_law_arrow_in sc (fun _ _ _ _ _ _ us hl => match us, hl with | [_], _ => rfl) (fun f cdv A outer s H E hr => (pdss_cons (pds_if (PW.pt (pdw_or (pdt_cmp (opd_ne hr) (pd_bltn calld_len T.g_len (dv 0)) pd_int) (pdw_or1 (pdt_not (pdt (pd_call (o_law_is_name.mono (by decide)) hr (pda_cons (pd_ix hr (dv 0) pd_int) pda_nil))))))) (pdss_one (pds_ret pd_non)) pdss_nil)
    (pdss_cons (pds_set (i := 1) sc.nd (pd_and (pd_cmp (opd_in hr) (pd_ix hr (dv 0) pd_int) pd_str) (pd_one (pd_cmp (opd_in hr) (pd_ix hr (dv 0) pd_int) pd_str))))
    (pdss_one (pds_ret (pd_if (pdt (dv 1)) (pd_tup (pda_cons (pd_type calld_int T.g_int (pd_ix hr (dv 0) pd_int)) (pda_cons (pd_ix hr (dv 0) pd_int) (pda_cons (pd_type calld_int T.g_int (pd_ix hr (dv 0) pd_int)) pda_nil)))) pd_non)))))) r_law_arrow_in
theorem ok_law_is_writer (T : Txt w K mg) (o_law_is_name : DefOk P w K mg base (2) "_law_is_name" 1 sp_law_is_name) : DefOk P w K mg base (3) "_law_is_writer" 1 sp_law_is_writer :=
  have sc := sc_law_is_writer
  def_ok (N := N_law_is_writer) (t := t_law_is_writer) T.d_law_is_writer sc (fun _ _ _ _ _ _ us hl => match us, hl with | [_], _ => rfl) (fun f cdv A outer s H E hr => (pdss_cons (pds_if (PW.pt (pdw_or (pdt_cmp (opd_ne hr) (pd_bltn calld_len T.g_len (dv 0)) pd_int) (pdw_or (pdt_not (pdt (pd_call (o_law_is_name.mono (by decide)) hr (pda_cons (pd_ix hr (dv 0) pd_int) pda_nil)))) (pdw_or1 (pdt_cmp opd_gt (pd_bltn calld_len T.g_len (pd_ix hr (dv 0) pd_int)) pd_int))))) (pdss_one (pds_ret pd_bl)) pdss_nil)
    (pdss_cons (pds_for PassesOwn.never (pdi_tup (pd_ix hr (dv 0) pd_int)) (pdg_tup (pdgs_cons (pdg_name (i := 3) sc.nd) (pdgs_cons (pdg_name (i := 4) sc.nd) (pdgs_cons (pdg_name (i := 5) sc.nd) pdgs_nil)))) (pdss_cons (pds_set (i := 6) sc.nd (pd_and (pd_chain opd_le opd_le pd_int (dv 3) pd_int) (pd_and (pd_chain opd_le opd_le pd_int (dv 5) pd_int) (pd_one (pd_cmp (opd_eq hr) (pd_bltn calld_len T.g_len (dv 4)) pd_int)))))
    (pdss_one (pds_if (PW.pt (pdw_or (pdt_not (pdt (dv 6))) (pdw_or1 (pdt_not (pdt (pd_call (o_law_is_name.mono (by decide)) hr (pda_cons (dv 4) pda_nil))))))) (pdss_one (pds_ret pd_bl)) pdss_nil))))
    (pdss_cons (pds_set (i := 1) sc.nd (pd_lc (own := [("_law_arrow", 7)]) sc.nd (pdi_tup (pd_ix hr (dv 0) pd_int)) (blkOk_by (own := [("_law_arrow", 7)]) (N := N_law_is_writer) (sc := defScope s_law_is_writer) (by decide +kernel)) (fun _ _ _ _ _ => (pdg_name (i := 7) sc.nd)) (fun _ _ _ _ _ => pdts_nil) (fun _ _ _ _ _ => (pd_slice (dv 7) pdo_none (pdo_some pd_int)))))
    (pdss_cons (pds_set (i := 2) sc.nd (pd_bltn calld_all T.g_all (pd_lc (own := [("_law_k", 8)]) sc.nd (pdi_range1 T.g_range (pda_cons (pd_op opd_subI (pd_bltn calld_len T.g_len (dv 1)) pd_int) pda_nil)) (blkOk_by (own := [("_law_k", 8)]) (N := N_law_is_writer) (sc := defScope s_law_is_writer) (by decide +kernel)) (fun _ _ _ _ _ => (pdg_name (i := 8) sc.nd)) (fun _ _ _ _ _ => pdts_nil) (fun _ _ _ _ _ => (pd_cmp (opd_ltD hr) (pd_ix hr (dv 1) (dv 8)) (pd_ix hr (dv 1) (pd_op opd_add (dv 8) pd_int)))))))
    (pdss_one (pds_ret (pd_and (dv 2) (pd_and (pd_chain opd_le opd_le pd_int (pd_ix hr (dv 0) pd_int) pd_int) (pd_one (pd_chain opd_le opd_le pd_int (pd_ix hr (dv 0) pd_int) pd_int))))))))))) r_law_is_writer
theorem ok_law_writer_in (T : Txt w K mg) (o_law_arrow_in : DefOk P w K mg base (3) "_law_arrow_in" 1 sp_law_arrow_in) (o_law_is_writer : DefOk P w K mg base (3) "_law_is_writer" 1 sp_law_is_writer) : DefOk P w K mg base (4) "_law_writer_in" 1 sp_law_writer_in :=
  have sc := sc_law_writer_in
  def_ok (N := N_law_writer_in) (t := t_law_writer_in) T.d_law_writer_in sc (fun _ _ _ _ _ _ us hl => match us, hl with | [_], _ => rfl) (fun f cdv A outer s H E hr => (pdss_cons (pds_set (i := 1) sc.nd (pd_split (dv 0) pd_str))
    (pdss_cons (pds_if (PW.pt (pdw_or (pdt_cmp (opd_ne hr) (pd_bltn calld_len T.g_len (dv 1)) pd_int) (pdw_or1 (pdt_not (pdt (pd_bltn calld_all T.g_all (pd_lc (own := [("_law_part", 5)]) sc.nd (pdi_lst (pd_slice (dv 1) (pdo_some pd_int) pdo_none)) (blkOk_by (own := [("_law_part", 5)]) (N := N_law_writer_in) (sc := defScope s_law_writer_in) (by decide +kernel)) (fun _ _ _ _ _ => (pdg_name (i := 5) sc.nd)) (fun _ _ _ _ _ => pdts_nil) (fun _ _ _ _ _ => (pd_cmp (opd_in hr) (dv 5) (pd_tup (pda_cons pd_str (pda_cons pd_str (pda_cons pd_str (pda_cons pd_str pda_nil)))))))))))))) (pdss_one (pds_ret pd_non)) pdss_nil)
    (pdss_cons (pds_set (i := 2) sc.nd (pd_if (pdt_cmp (opd_eq hr) (pd_ix hr (dv 1) pd_int) pd_str) (pd_lst pda_nil) (pd_lc (own := [("_law_row", 4)]) sc.nd (pdi_lst (pd_split (pd_ix hr (dv 1) pd_int) pd_str)) (blkOk_by (own := [("_law_row", 4)]) (N := N_law_writer_in) (sc := defScope s_law_writer_in) (by decide +kernel)) (fun _ _ _ _ _ => (pdg_name (i := 4) sc.nd)) (fun _ _ _ _ _ => pdts_nil) (fun _ _ _ _ _ => (pd_call (o_law_arrow_in.mono (by decide)) hr (pda_cons (dv 4) pda_nil))))))
    (pdss_cons (pds_if (pdt_cmp (opd_in hr) pd_non (dv 2)) (pdss_one (pds_ret pd_non)) pdss_nil)
    (pdss_cons (pds_set (i := 3) sc.nd (pd_tup (pda_cons (pd_ix hr (dv 1) pd_int) (pda_cons (pd_type calld_tuple T.g_tuple (dv 2)) (pda_cons (pd_type calld_int T.g_int (pd_ix hr (dv 1) pd_int)) (pda_cons (pd_type calld_int T.g_int (pd_ix hr (dv 1) pd_int)) pda_nil))))))
    (pdss_one (pds_ret (pd_if (pdt (pd_call (o_law_is_writer.mono (by decide)) hr (pda_cons (dv 3) pda_nil))) (dv 3) pd_non))))))))) r_law_writer_in
theorem ok_law_number_in (T : Txt w K mg) : DefOk P w K mg base (1) "_law_number_in" 1 sp_law_number_in :=
  have sc := sc_law_number_in
  def_ok (N := N_law_number_in) (t := t_law_number_in) T.d_law_number_in sc (fun _ _ _ _ _ _ us hl => match us, hl with | [_], _ => rfl) (fun f cdv A outer s H E hr => (pdss_cons (pds_set (i := 1) sc.nd (pd_if (pdt_cmp (opd_eq hr) (pd_slice (dv 0) pdo_none (pdo_some pd_int)) pd_str) (pd_slice (dv 0) (pdo_some pd_int) pdo_none) (dv 0)))
    (pdss_cons (pds_if (PW.pt (pdw_or (pdt_not (pdt_chain opd_lt opd_lt pd_int (pd_bltn calld_len T.g_len (dv 1)) pd_int)) (pdw_or1 (pdt_not (pdt (pd_bltn calld_all T.g_all (pd_lc (own := [("_law_one", 2)]) sc.nd (pdi_str (dv 1)) (blkOk_by (own := [("_law_one", 2)]) (N := N_law_number_in) (sc := defScope s_law_number_in) (by decide +kernel)) (fun _ _ _ _ _ => (pdg_name (i := 2) sc.nd)) (fun _ _ _ _ _ => pdts_nil) (fun _ _ _ _ _ => (pd_cmp (opd_in hr) (dv 2) pd_str))))))))) (pdss_one (pds_ret pd_non)) pdss_nil)
    (pdss_one (pds_ret (pd_if (PW.pt (pdw_and (pdt_cmp (opd_eq hr) (pd_ix hr (dv 1) pd_int) pd_str) (pdw_and1 (pdt_cmp (opd_ne hr) (dv 0) pd_str)))) pd_non (pd_type calld_int T.g_int (dv 0)))))))) r_law_number_in
theorem ok_law_deed_in (T : Txt w K mg) (o_law_writer_in : DefOk P w K mg base (4) "_law_writer_in" 1 sp_law_writer_in) (o_law_number_in : DefOk P w K mg base (1) "_law_number_in" 1 sp_law_number_in) (o_law_is_name : DefOk P w K mg base (2) "_law_is_name" 1 sp_law_is_name) : DefOk P w K mg base (5) "_law_deed_in" 1 sp_law_deed_in :=
  have sc := sc_law_deed_in
  def_ok (N := N_law_deed_in) (t := t_law_deed_in) T.d_law_deed_in sc (fun _ _ _ _ _ _ us hl => match us, hl with | [_], _ => rfl) (fun f cdv A outer s H E hr => (pdss_cons (pds_set (i := 1) sc.nd (pd_split (dv 0) pd_str))
    (pdss_cons (pds_set (i := 2) sc.nd (pd_dct (pps_up pd_str pd_str (pps_up pd_str pd_str (pps_up pd_str pd_str (pps_up pd_str pd_str (pps_up pd_str pd_str (pps_up pd_str pd_str pps_up0))))))))
    (pdss_cons (pds_expr (pd_update (dv 2) (pd_frz (pd_dct (pps_up pd_str pd_str (pps_up pd_str pd_str (pps_up pd_str pd_str pps_up0)))))))
    (pdss_cons (pds_frz 2 (pds_par (i := 3) (j := 4) sc.nd (pda_cons (pd_getS hr (dv 2) (pd_ix hr (dv 1) pd_int) pd_str) (pda_cons (pd_lstM (pda_cons (pd_ix hr (dv 1) pd_int) pda_nil)) pda_nil))))
    (pdss_cons (pds_if (PW.pt (pdw_or (pdt_cmp (opd_eq hr) (dv 3) pd_str) (pdw_or1 (pdt_cmp (opd_ne hr) (pd_bltn calld_len T.g_len (dv 3)) (pd_op opd_subI (pd_bltn calld_len T.g_len (dv 1)) pd_int))))) (pdss_one (pds_frz 4 (pds_ret pd_non))) pdss_nil)
    (pdss_cons (pds_for PassesOwn.never (pdi_zipTx T.g_zip (pda_cons (dv 3) (pda_cons (pd_slice (dv 1) (pdo_some pd_int) pdo_none) pda_nil))) (pdg_tup (pdgs_cons (pdg_name (i := 5) sc.nd) (pdgs_cons (pdg_name (i := 6) sc.nd) pdgs_nil))) (pdss_one (pds_if (pdt_cmp (opd_eq hr) (dv 5) pd_str) (pdss_one (pds_expr (pd_append (dv 4) (pd_call (o_law_writer_in.mono (by decide)) hr (pda_cons (dv 6) pda_nil))))) (pdss_one (pds_if (pdt_cmp (opd_eq hr) (dv 5) pd_str) (pdss_one (pds_expr (pd_append (dv 4) (pd_call (o_law_number_in.mono (by decide)) hr (pda_cons (dv 6) pda_nil))))) (pdss_cons (pds_set (i := 7) sc.nd (pd_and (pd_call (o_law_is_name.mono (by decide)) hr (pda_cons (dv 6) pda_nil)) (pd_one (pd_or (pd_cmp (opd_eq hr) (dv 5) pd_str) (pd_one (pd_cmp (opd_eq hr) (pd_bltn calld_len T.g_len (dv 6)) pd_int))))))
    (pdss_one (pds_expr (pd_append (dv 4) (pd_if (pdt (dv 7)) (dv 6) pd_non))))))))))
    (pdss_one (pds_frz 4 (pds_ret (pd_if (pdt_cmp (opd_in hr) pd_non (dv 4)) pd_non (pd_type calld_tuple T.g_tuple (dv 4))))))))))))) r_law_deed_in
theorem ok_law_field (T : Txt w K mg) : FieldOk P w K mg base 1 excs :=
  have sc := sc_law_field
  field_ok (k := 0) (N := fieldN) (t := t_law_field) T.xf T.d_law_field sc (fun _ _ _ _ _ _ us hl => match us, hl with | [_], _ => rfl) (fun nm hn a dd oe hz hf f cdv A outer s H E hr => (pdss_cons (pds_if (pdt_cmp (opd_inH (roomHn (by decide) hr)) (pd_xf (T.xf nm hn).1 (T.noF nm hn "word" (by decide)) hz hf List.mem_cons_self (dv 0)) (pd_tup (pda_cons pd_str (pda_cons pd_str pda_nil)))) (pdss_one (pds_ret (pd_xf (T.xf nm hn).1 (T.noF nm hn "name" (by decide)) hz hf List.mem_cons_self (dv 0)))) pdss_nil)
    (pdss_cons (pds_if (pdt_cmp (opd_eqH (roomHn (by decide) hr)) (pd_xf (T.xf nm hn).1 (T.noF nm hn "word" (by decide)) hz hf List.mem_cons_self (dv 0)) pd_str) (pdss_one (pds_ret (pd_xf (T.xf nm hn).1 (T.noF nm hn "most" (by decide)) hz hf List.mem_cons_self (dv 0)))) pdss_nil)
    (pdss_cons (pds_if (pdt_cmp (opd_eqH (roomHn (by decide) hr)) (pd_xf (T.xf nm hn).1 (T.noF nm hn "word" (by decide)) hz hf List.mem_cons_self (dv 0)) pd_str) (pdss_one (pds_ret (pd_xf (T.xf nm hn).1 (T.noF nm hn "strip" (by decide)) hz hf List.mem_cons_self (dv 0)))) pdss_nil)
    (pdss_cons (pds_if (pdt_cmp (opd_eqH (roomHn (by decide) hr)) (pd_xf (T.xf nm hn).1 (T.noF nm hn "word" (by decide)) hz hf List.mem_cons_self (dv 0)) pd_str) (pdss_one (pds_ret (pd_xf (T.xf nm hn).1 (T.noF nm hn "number" (by decide)) hz hf List.mem_cons_self (dv 0)))) pdss_nil)
    (pdss_cons (pds_set (i := 1) sc.nd pd_str)
    (pdss_one (pds_ret (pd_if (pdt_cmp (opd_inH (roomHn (by decide) hr)) (pd_xf (T.xf nm hn).1 (T.noF nm hn "word" (by decide)) hz hf List.mem_cons_self (dv 0)) (pd_split (dv 1) pd_str)) pd_non (pd_xf (T.xf nm hn).1 (T.noF nm hn "at" (by decide)) hz hf List.mem_cons_self (dv 0))))))))))) (fun a dd ns xs d M Q h q => r_law_field a dd ns xs d M Q h q)
theorem ok_law_tried {k : Nat} (T : Txt w K mg) (FO : FieldOk P w K mg base k excs) : TriedOk P w K mg base (k + 1) (csE K) excs :=
  have sc := sc_law_tried
  tried_ok T.d_law_tried sc (fun _ _ _ _ _ _ us hl => match us, hl with | [_], _ => rfl) (fun g cdv A outer s H f c q tl j hj C hr => pss_cons (ps_asg (pe_tup (pa_cons pe_non (pa_cons pe_str (pa_cons pe_non pa_nil)))) (pg_tup rfl (pgs_cons (pg_name sc.nd rfl (.inl rfl)) (pgs_cons (pg_name sc.nd rfl (.inl rfl)) (pgs_cons (pg_name sc.nd rfl (.inl rfl)) pgs_nil)))))
    (pss_cons (ps_try_tup rfl rfl sc.nd rfl rfl ⟨rfl, by decide, .inl T.x_InkError.gl⟩ ⟨rfl, by decide, .inl T.x_Missing⟩ ⟨rfl, by decide, .inl T.x_NothingLeft⟩ (fun W pn xe tk => pss_one (ps_set sc.nd rfl (.inl rfl) (pe_ask C rfl tk (hr.mono hj) rfl (.inl rfl))))
      (fun a oe cls d pn hz hf => pss_one (ps_parH ⟨(a, oe), ⟨rfl, let ⟨vs, hv⟩ := hf; ⟨vs, hv, hz.2.2 vs hv⟩⟩, List.mem_cons_self⟩ sc.nd rfl rfl (by decide) rfl rfl (pa_cons (pe_word FO hz hf) (pa_cons (pe_field FO (markH hr _) hz hf) pa_nil)))))
    (pss_one (ps_ret (pe_tup (pa_cons (pv 1) (pa_cons (pv 2) (pa_cons (pv 3) pa_nil))))))))
theorem ok_arrow_in (T : Txt w K mg) : DefOk P w K mg base (1) "arrow_in" 1 sp_arrow_in :=
  have sc := sc_arrow_in
  def_ok (N := N_arrow_in) (t := t_arrow_in) T.d_arrow_in sc (fun _ _ _ _ _ _ us hl => match us, hl with | [_], _ => rfl) (fun f cdv A outer s H E hr => (pdss_cons (pds_if (PW.pt (pdw_or (pdt_cmp (opd_ne hr) (pd_bltn calld_len T.g_len (dv 0)) pd_int) (pdw_or (pdt_cmp (opd_notin hr) (pd_ix hr (dv 0) pd_int) (pd_globS rfl T.c_FIGURES_writers.choose_spec)) (pdw_or1 (pdt_cmp (opd_notin hr) (pd_ix hr (dv 0) pd_int) (pd_globS rfl T.c_FIGURES_writers.choose_spec)))))) (pdss_one (pds_ret pd_non)) pdss_nil)
    (pdss_one (pds_ret (pd_tup (pda_cons (pd_type calld_int T.g_int (pd_ix hr (dv 0) pd_int)) (pda_cons (pd_ix hr (dv 0) pd_int) (pda_cons (pd_type calld_int T.g_int (pd_ix hr (dv 0) pd_int)) pda_nil)))))))) r_arrow_in
theorem ok_is_name (T : Txt w K mg) : DefOk P w K mg base (1) "is_name" 1 sp_is_name :=
  have sc := sc_is_name
  def_ok (N := N_is_name) (t := t_is_name) T.d_is_name sc (fun _ _ _ _ _ _ us hl => match us, hl with | [_], _ => rfl) (fun f cdv A outer s H E hr => (pdss_one (pds_ret (pd_and (pd_chain opd_lt opd_le pd_int (pd_bltn calld_len T.g_len (dv 0)) (pd_globI rfl T.c_LONGEST.choose_spec)) (pd_one (pd_bltn calld_all T.g_all (pd_lc (own := [("sign", 1)]) sc.nd (pdi_str (dv 0)) (blkOk_by (own := [("sign", 1)]) (N := N_is_name) (sc := defScope s_is_name) (by decide +kernel)) (fun _ _ _ _ _ => (pdg_name (i := 1) sc.nd)) (fun _ _ _ _ _ => pdts_nil) (fun _ _ _ _ _ => (pd_cmp (opd_in hr) (dv 1) (pd_globS rfl T.c_LETTERS.choose_spec)))))))))) r_is_name
theorem ok_is_sign (T : Txt w K mg) : DefOk P w K mg base (1) "is_sign" 1 sp_is_sign :=
  have sc := sc_is_sign
  def_ok (N := N_is_sign) (t := t_is_sign) T.d_is_sign sc (fun _ _ _ _ _ _ us hl => match us, hl with | [_], _ => rfl) (fun f cdv A outer s H E hr => (pdss_one (pds_ret (pd_and (pd_cmp (opd_eq hr) (pd_bltn calld_len T.g_len (dv 0)) pd_int) (pd_one (pd_cmp (opd_in hr) (dv 0) (pd_globS rfl T.c_LETTERS.choose_spec))))))) r_is_sign
theorem ok_is_arrow (T : Txt w K mg) (o_is_sign : DefOk P w K mg base (1) "is_sign" 1 sp_is_sign) : DefOk P w K mg base (2) "is_arrow" 1 sp_is_arrow :=
  have sc := sc_is_arrow
  def_ok (N := N_is_arrow) (t := t_is_arrow) T.d_is_arrow sc (fun _ _ _ _ _ _ us hl => match us, hl with | [_], _ => rfl) (fun f cdv A outer s H E hr => (pdss_cons (pds_asg (dv 0) (pdg_tup (pdgs_cons (pdg_name (i := 1) sc.nd) (pdgs_cons (pdg_name (i := 2) sc.nd) (pdgs_cons (pdg_name (i := 3) sc.nd) pdgs_nil)))))
    (pdss_one (pds_ret (pd_and (pd_chain opd_le opd_le pd_int (dv 1) (pd_globI rfl T.c_MOST_PLACE.choose_spec)) (pd_and (pd_call (o_is_sign.mono (by decide)) hr (pda_cons (dv 2) pda_nil)) (pd_one (pd_chain opd_le opd_le pd_int (dv 3) (pd_globI rfl T.c_MOST_PLACE.choose_spec))))))))) r_is_arrow
theorem ok_is_writer (T : Txt w K mg) (o_is_name : DefOk P w K mg base (1) "is_name" 1 sp_is_name) (o_is_arrow : DefOk P w K mg base (2) "is_arrow" 1 sp_is_arrow) : DefOk P w K mg base (3) "is_writer" 1 sp_is_writer :=
  have sc := sc_is_writer
  def_ok (N := N_is_writer) (t := t_is_writer) T.d_is_writer sc (fun _ _ _ _ _ _ us hl => match us, hl with | [_], _ => rfl) (fun f cdv A outer s H E hr => (pdss_cons (pds_if (pdt_cmp (opd_ne hr) (pd_bltn calld_len T.g_len (dv 0)) pd_int) (pdss_one (pds_ret pd_bl)) pdss_nil)
    (pdss_cons (pds_asg (dv 0) (pdg_tup (pdgs_cons (pdg_name (i := 2) sc.nd) (pdgs_cons (pdg_name (i := 3) sc.nd) (pdgs_cons (pdg_name (i := 4) sc.nd) (pdgs_cons (pdg_name (i := 5) sc.nd) pdgs_nil))))))
    (pdss_cons (pds_if (PW.pt (pdw_or (pdt_not (pdt (pd_call (o_is_name.mono (by decide)) hr (pda_cons (dv 2) pda_nil)))) (pdw_or (pdt_cmp opd_gt (pd_bltn calld_len T.g_len (dv 3)) (pd_globI rfl T.c_MOST_ARROWS.choose_spec)) (pdw_or1 (pdt_not (pdt (pd_bltn calld_all T.g_all (pd_lc (own := [("arrow", 6)]) sc.nd (pdi_tup (dv 3)) (blkOk_by (own := [("arrow", 6)]) (N := N_is_writer) (sc := defScope s_is_writer) (by decide +kernel)) (fun _ _ _ _ _ => (pdg_name (i := 6) sc.nd)) (fun _ _ _ _ _ => pdts_nil) (fun _ _ _ _ _ => (pd_call (o_is_arrow.mono (by decide)) hr (pda_cons (dv 6) pda_nil))))))))))) (pdss_one (pds_ret pd_bl)) pdss_nil)
    (pdss_cons (pds_setLc (i := 1) (own := [("arrow", 6)]) sc.nd (sw_true rfl rfl rfl (by decide +kernel)) (pdi_tup (dv 3)) (blkOk_by (own := [("arrow", 6)]) (N := N_is_writer) (sc := defScope s_is_writer) (by decide +kernel)) (fun _ _ _ _ _ => (pdg_name (i := 6) sc.nd)) (fun _ _ _ _ _ => pdts_nil) (fun _ _ _ _ _ => (pd_slice (dv 6) pdo_none (pdo_some pd_int))))
    (pdss_one (pds_ret (pd_and (pd_cmp (opd_eq hr) (dv 1) (pd_sortset hr T.g_sorted T.g_set (dv 1))) (pd_and (pd_chain opd_le opd_le pd_int (dv 4) (pd_globI rfl T.c_MOST_COUNT.choose_spec)) (pd_one (pd_chain opd_le opd_le pd_int (dv 5) (pd_globI rfl T.c_MOST_COUNT.choose_spec)))))))))))) r_is_writer
theorem ok_writer_in (T : Txt w K mg) (o_arrow_in : DefOk P w K mg base (1) "arrow_in" 1 sp_arrow_in) (o_is_writer : DefOk P w K mg base (3) "is_writer" 1 sp_is_writer) : DefOk P w K mg base (4) "writer_in" 1 sp_writer_in :=
  have sc := sc_writer_in
  def_ok (N := N_writer_in) (t := t_writer_in) T.d_writer_in sc (fun _ _ _ _ _ _ us hl => match us, hl with | [_], _ => rfl) (fun f cdv A outer s H E hr => (pdss_cons (pds_set (i := 1) sc.nd (pd_split (dv 0) pd_str))
    (pdss_cons (pds_if (PW.pt (pdw_or (pdt_cmp (opd_ne hr) (pd_bltn calld_len T.g_len (dv 1)) pd_int) (pdw_or (pdt_cmp (opd_ne hr) (pd_bltn calld_len T.g_len (pd_ix hr (dv 1) pd_int)) pd_int) (pdw_or1 (pdt_cmp (opd_ne hr) (pd_bltn calld_len T.g_len (pd_ix hr (dv 1) pd_int)) pd_int))))) (pdss_one (pds_ret pd_non)) pdss_nil)
    (pdss_cons (pds_asgL (dv 1) (pdgs_cons (pdg_name (i := 4) sc.nd) (pdgs_cons (pdg_name (i := 5) sc.nd) (pdgs_cons (pdg_name (i := 6) sc.nd) (pdgs_cons (pdg_name (i := 7) sc.nd) pdgs_nil)))))
    (pdss_cons (pds_set (i := 2) sc.nd (pd_if (pdt_cmp (opd_eq hr) (dv 5) pd_str) (pd_lst pda_nil) (pd_lc (own := [("row", 8)]) sc.nd (pdi_lst (pd_split (dv 5) pd_str)) (blkOk_by (own := [("row", 8)]) (N := N_writer_in) (sc := defScope s_writer_in) (by decide +kernel)) (fun _ _ _ _ _ => (pdg_name (i := 8) sc.nd)) (fun _ _ _ _ _ => pdts_nil) (fun _ _ _ _ _ => (pd_call (o_arrow_in.mono (by decide)) hr (pda_cons (dv 8) pda_nil))))))
    (pdss_cons (pds_if (PW.pt (pdw_or (pdt_cmp (opd_in hr) pd_non (dv 2)) (pdw_or (pdt_cmp (opd_notin hr) (dv 6) (pd_globS rfl T.c_FIGURES_writers.choose_spec)) (pdw_or1 (pdt_cmp (opd_notin hr) (dv 7) (pd_globS rfl T.c_FIGURES_writers.choose_spec)))))) (pdss_one (pds_ret pd_non)) pdss_nil)
    (pdss_cons (pds_set (i := 3) sc.nd (pd_tup (pda_cons (dv 4) (pda_cons (pd_type calld_tuple T.g_tuple (dv 2)) (pda_cons (pd_type calld_int T.g_int (dv 6)) (pda_cons (pd_type calld_int T.g_int (dv 7)) pda_nil))))))
    (pdss_one (pds_ret (pd_if (pdt (pd_call (o_is_writer.mono (by decide)) hr (pda_cons (dv 3) pda_nil))) (dv 3) pd_non)))))))))) r_writer_in
theorem ok_number_in (T : Txt w K mg) : DefOk P w K mg base (1) "number_in" 1 sp_number_in :=
  have sc := sc_number_in
  def_ok (N := N_number_in) (t := t_number_in) T.d_number_in sc (fun _ _ _ _ _ _ us hl => match us, hl with | [_], _ => rfl) (fun f cdv A outer s H E hr => (pdss_cons (pds_set (i := 1) sc.nd (pd_if (pdt_cmp (opd_eq hr) (pd_slice (dv 0) pdo_none (pdo_some pd_int)) pd_str) (pd_slice (dv 0) (pdo_some pd_int) pdo_none) (dv 0)))
    (pdss_cons (pds_if (PW.pt (pdw_or (pdt_not (pdt_chain opd_lt opd_le pd_int (pd_bltn calld_len T.g_len (dv 1)) (pd_globI rfl T.c_MOST_FIGURES.choose_spec))) (pdw_or1 (pdt_not (pdt (pd_bltn calld_all T.g_all (pd_lc (own := [("sign", 2)]) sc.nd (pdi_str (dv 1)) (blkOk_by (own := [("sign", 2)]) (N := N_number_in) (sc := defScope s_number_in) (by decide +kernel)) (fun _ _ _ _ _ => (pdg_name (i := 2) sc.nd)) (fun _ _ _ _ _ => pdts_nil) (fun _ _ _ _ _ => (pd_cmp (opd_in hr) (dv 2) (pd_globS rfl T.c_FIGURES_deeds.choose_spec)))))))))) (pdss_one (pds_ret pd_non)) pdss_nil)
    (pdss_cons (pds_if (PW.pt (pdw_and (pdt_cmp (opd_eq hr) (pd_ix hr (dv 1) pd_int) pd_str) (pdw_and1 (pdt_cmp (opd_ne hr) (dv 0) pd_str)))) (pdss_one (pds_ret pd_non)) pdss_nil)
    (pdss_one (pds_ret (pd_type calld_int T.g_int (dv 0)))))))) r_number_in
theorem ok_thing_in (T : Txt w K mg) (o_writer_in : DefOk P w K mg base (4) "writer_in" 1 sp_writer_in) (o_number_in : DefOk P w K mg base (1) "number_in" 1 sp_number_in) (o_is_name : DefOk P w K mg base (1) "is_name" 1 sp_is_name) (o_is_sign : DefOk P w K mg base (1) "is_sign" 1 sp_is_sign) : DefOk P w K mg base (5) "thing_in" 2 sp_thing_in :=
  have sc := sc_thing_in
  def_ok (N := N_thing_in) (t := t_thing_in) T.d_thing_in sc (fun _ _ _ _ _ _ us hl => match us, hl with | [_, _], _ => rfl) (fun f cdv A outer s H E hr => (pdss_cons (pds_if (pdt_cmp (opd_eq hr) (dv 0) pd_str) (pdss_one (pds_ret (pd_call (o_writer_in.mono (by decide)) hr (pda_cons (dv 1) pda_nil)))) pdss_nil)
    (pdss_cons (pds_if (pdt_cmp (opd_eq hr) (dv 0) pd_str) (pdss_one (pds_ret (pd_call (o_number_in.mono (by decide)) hr (pda_cons (dv 1) pda_nil)))) pdss_nil)
    (pdss_cons (pds_set (i := 2) sc.nd (pd_if (pdt_cmp (opd_eq hr) (dv 0) pd_str) (pd_call (o_is_name.mono (by decide)) hr (pda_cons (dv 1) pda_nil)) (pd_call (o_is_sign.mono (by decide)) hr (pda_cons (dv 1) pda_nil))))
    (pdss_one (pds_ret (pd_if (pdt (dv 2)) (dv 1) pd_non))))))) r_thing_in
theorem ok_deed_in (T : Txt w K mg) (o_thing_in : DefOk P w K mg base (5) "thing_in" 2 sp_thing_in) : DefOk P w K mg base (6) "deed_in" 1 sp_deed_in :=
  have sc := sc_deed_in
  def_ok (N := N_deed_in) (t := t_deed_in) T.d_deed_in sc (fun _ _ _ _ _ _ us hl => match us, hl with | [_], _ => rfl) (fun f cdv A outer s H E hr => (pdss_cons (pds_star (i := 3) (j := 4) (pd_split (dv 0) pd_str) (pdgs_cons (pdg_name (i := 3) sc.nd) (pdgs_cons (pdg_name (i := 4) sc.nd) pdgs_nil)))
    (pdss_cons (pds_set (i := 1) sc.nd (pd_getT T.m_FORMS (dv 3) pd_non))
    (pdss_cons (pds_if (PW.pt (pdw_or (pdt_cmp opd_is (dv 1) pd_non) (pdw_or1 (pdt_cmp (opd_ne hr) (pd_bltn calld_len T.g_len (dv 4)) (pd_bltn calld_len T.g_len (dv 1)))))) (pdss_one (pds_ret pd_non)) pdss_nil)
    (pdss_cons (pds_setLc (i := 2) (own := [("kind", 5), ("row", 6)]) sc.nd (sw_true rfl rfl rfl (by decide +kernel)) (pdi_zipTx T.g_zip (pda_cons (dv 1) (pda_cons (dv 4) pda_nil))) (blkOk_by (own := [("kind", 5), ("row", 6)]) (N := N_deed_in) (sc := defScope s_deed_in) (by decide +kernel)) (fun _ _ _ _ _ => (pdg_tup (pdgs_cons (pdg_name (i := 5) sc.nd) (pdgs_cons (pdg_name (i := 6) sc.nd) pdgs_nil)))) (fun _ _ _ _ _ => pdts_nil) (fun _ _ _ _ _ => (pd_call (o_thing_in.mono (by decide)) hr (pda_cons (dv 5) (pda_cons (dv 6) pda_nil)))))
    (pdss_one (pds_ret (pd_if (pdt_cmp (opd_in hr) pd_non (dv 2)) pd_non (pd_op opd_add (pd_tup (pda_cons (dv 3) pda_nil)) (pd_type calld_tuple T.g_tuple (dv 2))))))))))) r_deed_in
theorem ok_InkError (T : Txt w K mg) : InkOk P w K mg base 1 .ve "InkError" :=
  let ⟨_, _, F, hd⟩ := T.i_InkError
  have sc := sc_InkError___init__
  inkOk_of T.x_InkError F hd sc (fun T kV doc pm an cdv ct us its hu hi => match us, its, hu, hi with | [_, _], [_], _, _ => ⟨_, rfl, rfl⟩) (fun cdv A outer s H E => pss_cons (ps_expr (pe_viinit rfl T.g_ValueError T.x_InkError.ve (pa_cons (pv 0) (pa_cons (pv 1) pa_nil)))) (pss_one (ps_osb (pv 0) (pv 1))))
theorem ok_b_BadText (T : Txt w K mg) (ik : InkOk P w K mg base 1 .ve "InkError") : BadOk P w K mg base 2 "BadText" ["at"] :=
  let ⟨_, F⟩ := T.i_BadText
  have sc := sc_BadText___init__
  badOk_of1 T.x_BadText F sc (fun _ _ _ _ _ _ us hl => match us, hl with | [_, _], _ => rfl) (fun cdv A outer s H E hr => (pss_cons (ps_expr (pe_ink ik hr (pa_cons (pv 0) (pa_cons pe_str pa_nil)))) (pss_one (ps_osb (pv 0) (pv 1)))))
theorem ok_read_deed (T : Txt w K mg) (o_deed_in : DefOk P w K mg base (6) "deed_in" 1 sp_deed_in) (b_BadText : BadOk P w K mg base 2 "BadText" ["at"]) : DefOk P w K mg base (7) "read_deed" 1 sp_read_deed :=
  have sc := sc_read_deed
  def_okX (N := N_read_deed) (t := t_read_deed) T.d_read_deed sc (fun _ _ _ _ _ _ us hl => match us, hl with | [_], _ => rfl) (fun f cdv A outer s H E hr => (pssx_cons (psx_of (pds_set (i := 1) sc.nd (pd_call (o_deed_in.mono (by decide)) hr (pda_cons (dv 0) pda_nil))))
    (pssx_cons (psx_if (pdt_cmp opd_is (dv 1) pd_non) (pssx_one (psx_raise takes_body (b_BadText.mono (by decide)) hr (by decide) rfl (pda_cons pd_int pda_nil))) (pssx_of pdss_nil))
    (pssx_one (psx_of (pds_ret (dv 1))))))) r_read_deed
theorem ok_law_like {n : Nat} (T : Txt w K mg) (o_law_like : DefOk P w K mg base (0 + n) "_law_like" 2 (sp_law_like n)) : DefOk P w K mg base (0 + n + 1) "_law_like" 2 (sp_law_like (n + 1)) :=
  have sc := sc_law_like
  def_ok (N := N_law_like) (t := t_law_like n) T.d_law_like sc (fun _ _ _ _ _ _ us hl => match us, hl with | [_, _], _ => rfl) (fun f cdv A outer s H E hr => (pdss_cons (pds_if (pdt (pd_isi2 .list .tuple T.g_isinstance (dv 1) T.g_list T.g_tuple)) (pdss_cons (pds_if (PW.pt (pdw_or (pdt_cmp (opd_ne hr) (pd_isi .list T.g_isinstance (dv 0) T.g_list) (pd_isi .list T.g_isinstance (dv 1) T.g_list)) (pdw_or1 (pdt_cmp (opd_ne hr) (pd_isi .tuple T.g_isinstance (dv 0) T.g_tuple) (pd_isi .tuple T.g_isinstance (dv 1) T.g_tuple))))) (pdss_one (pds_ret pd_bl)) pdss_nil)
    (pdss_one (pds_ret (pd_and (pd_cmp (opd_eq hr) (pd_bltn calld_len T.g_len (dv 0)) (pd_bltn calld_len T.g_len (dv 1))) (pd_one (pd_bltn calld_all T.g_all (pd_lc (own := [("_law_one", 2), ("_law_other", 3)]) sc.nd (pdi_zip T.g_zip (pda_cons (dv 0) (pda_cons (dv 1) pda_nil))) (blkOk_by (own := [("_law_one", 2), ("_law_other", 3)]) (N := N_law_like) (sc := defScope s_law_like) (by decide +kernel)) (fun _ _ _ _ _ => (pdg_tup (pdgs_cons (pdg_name (i := 2) sc.nd) (pdgs_cons (pdg_name (i := 3) sc.nd) pdgs_nil)))) (fun _ _ _ _ _ => pdts_nil) (fun _ _ _ _ _ => (pd_call o_law_like hr (pda_cons (dv 2) (pda_cons (dv 3) pda_nil))))))))))) pdss_nil)
    (pdss_cons (pds_if (PW.pt (pdw_or (pdt_cmp opd_is (dv 0) pd_non) (pdw_or1 (pdt_cmp opd_is (dv 1) pd_non)))) (pdss_one (pds_ret (pd_and (pd_cmp opd_is (dv 0) pd_non) (pd_one (pd_cmp opd_is (dv 1) pd_non))))) pdss_nil)
    (pdss_cons (pds_if (PW.pt (pdw_or (pdt_cmp (opd_ne hr) (pd_isi .bool T.g_isinstance (dv 0) T.g_bool) (pd_isi .bool T.g_isinstance (dv 1) T.g_bool)) (pdw_or1 (pdt_cmp (opd_ne hr) (pd_isi .int T.g_isinstance (dv 0) T.g_int) (pd_isi .int T.g_isinstance (dv 1) T.g_int))))) (pdss_one (pds_ret pd_bl)) pdss_nil)
    (pdss_one (pds_ret (pd_and (pd_cmp (opd_eq hr) (pd_isi .str T.g_isinstance (dv 0) T.g_str) (pd_isi .str T.g_isinstance (dv 1) T.g_str)) (pd_one (pd_cmp (opd_eq hr) (dv 0) (dv 1)))))))))) (r_law_like n)
theorem oks_law_like (T : Txt w K mg) : ∀ n, DefOk P w K mg base (0 + n) "_law_like" 2 (sp_law_like n)
  | 0 => def_void (ps := ["_law_found", "_law_due"]) T.d_law_like (fun _ _ _ _ _ _ us hl => match us, hl with | [_, _], _ => rfl) z_law_like
  | n + 1 => ok_law_like T (oks_law_like T n)
theorem ok_law_refused {k : Nat} (T : Txt w K mg) (o : TriedOk P w K mg base k (csE K) excs) : RefusedOk P w K mg base (k + 1) (csE K) excs :=
  have sc := sc_law_refused
  refused_ok T.d_law_refused sc (fun _ _ _ _ _ _ us hl => match us, hl with | [_], _ => rfl) (fun g cdv A outer s H f c q tl j hj mo mx C hr => pss_one (ps_ret (pe_slice sl_tupA (pe_tried o C mo mx rfl rfl hr hj) (po_some pe_int) po_none)))
theorem fn_law {fd : FuncData} (F : FunD K "law" "law" (defArgs s_law) (defBody s_law) (defScope s_law) [] [] (He.fAd K ("law", none)) fd) (T : Txt w K mg) (o_law_bag : DefOk P w K mg base (1) "_law_bag" 1 sp_law_bag) (o_law_deed_text : DefOk P w K mg base (2) "_law_deed_text" 1 sp_law_deed_text) (o_law_of : DefOk P w K mg base (2) "_law_of" 2 sp_law_of) (o_law_every_deed : DefOk P w K mg base (4) "_law_every_deed" 3 sp_law_every_deed) (o_law_names : DefOk P w K mg base (3) "_law_names" 2 sp_law_names) (o_law_signs : DefOk P w K mg base (3) "_law_signs" 2 sp_law_signs) (o_law_pull : DefOk P w K mg base (1) "_law_pull" 2 sp_law_pull) (o_law_bent_text : DefOk P w K mg base (3) "_law_bent_text" 3 sp_law_bent_text) (o_law_deed_in : DefOk P w K mg base (5) "_law_deed_in" 1 sp_law_deed_in) (o_read_deed : DefOk P w K mg base (7) "read_deed" 1 sp_read_deed) (o_law_like : DefOk P w K mg base (8) "_law_like" 2 (sp_law_like 8)) (TB : LamX.TabB base mg (He.cT K ("law", none)).1 (He.cT K ("law", none)).2) (o_law_refused : RefusedOk P w K mg base (11) (csE K) excs) (o_law_tried : TriedOk P w K mg base (11) (csE K) excs) : FnOk P w K mg base (L2N.CX P w) (12) (He.fAd K ("law", none)) fd ["_law_script"] (upSp K 1 (sp_lawT (He.cT K ("law", none)).2)) :=
  have sc := sc_law
  def_fnL (N := N_law) (t := (t_law (He.cT K ("law", none)).2)) F sc (fun A outer s H E hr => (pdss_cons (pds_set (i := 1) sc.nd (pd_call (o_law_bag.mono (by decide)) hr (pda_cons (dv 0) pda_nil)))
    (pdss_cons (pds_for PassesOwn.never (pdi_range1 T.g_range (pda_cons pd_int pda_nil)) (pdg_name (i := 2) sc.nd) (pdss_cons (pds_set (i := 4) sc.nd (pd_call (o_law_deed_text.mono (by decide)) hr (pda_cons (pd_call (o_law_of.mono (by decide)) hr (pda_cons (dv 1) (pda_cons (pd_call (o_law_every_deed.mono (by decide)) hr (pda_cons (dv 1) (pda_cons (pd_call (o_law_names.mono (by decide)) hr (pda_cons (dv 1) (pda_cons pd_int pda_nil))) (pda_cons (pd_call (o_law_signs.mono (by decide)) hr (pda_cons (dv 1) (pda_cons pd_int pda_nil))) pda_nil)))) pda_nil))) pda_nil)))
    (pdss_cons (pds_for PassesOwn.never (pdi_range1 T.g_range (pda_cons (pd_op opd_add pd_int (pd_call (o_law_pull.mono (by decide)) hr (pda_cons (dv 1) (pda_cons pd_int pda_nil)))) pda_nil)) (pdg_name (i := 5) sc.nd) (pdss_one (pds_set (i := 4) sc.nd (pd_call (o_law_bent_text.mono (by decide)) hr (pda_cons (dv 1) (pda_cons (dv 4) (pda_cons (pd_lst (pda_cons pd_str (pda_cons pd_str (pda_cons pd_str (pda_cons pd_str (pda_cons pd_str (pda_cons pd_str (pda_cons pd_str (pda_cons pd_str (pda_cons pd_str pda_nil)))))))))) pda_nil)))))))
    (pdss_cons (pds_set (i := 6) sc.nd (pd_call (o_law_deed_in.mono (by decide)) hr (pda_cons (dv 4) pda_nil)))
    (pdss_cons (pds_set (i := 7) sc.nd (pd_try (j := 9) o_law_tried T.hcs TB rfl hr (by decide) (LamX.lamS_by (by show LamX.lamSB (defScope s_law) _ = true; decide +kernel)) (fun A outer s1 H1 E f c' hr => (pdx_call takes_lam (o_read_deed.mono (by decide)) hr (pda_cons (dv 4) pda_nil)))))
    (pdss_one (pds_if (pdt_not (pdt (pd_call (o_law_like.mono (by decide)) hr (pda_cons (dv 7) (pda_cons (pd_if (pdt_cmp opd_isnot (dv 6) pd_non) (pd_tup (pda_cons (dv 6) (pda_cons pd_str (pda_cons pd_non pda_nil)))) (pd_tup (pda_cons pd_non (pda_cons pd_str (pda_cons pd_int pda_nil))))) pda_nil))))) (pdss_one (pds_ret pd_bl)) pdss_nil)))))))
    (pdss_cons (pds_set (i := 3) sc.nd (pd_lst (pda_cons pd_str (pda_cons pd_str (pda_cons pd_str (pda_cons pd_str (pda_cons pd_str (pda_cons pd_str (pda_cons pd_str (pda_cons pd_str (pda_cons pd_str (pda_cons pd_str (pda_cons pd_str pda_nil)))))))))))))
    (pdss_cons (pds_set (i := 3) sc.nd (pd_op opd_add (dv 3) (pd_lst (pda_cons pd_str (pda_cons pd_str (pda_cons pd_str (pda_cons pd_str (pda_cons pd_str (pda_cons pd_str (pda_cons pd_str (pda_cons pd_str (pda_cons pd_str pda_nil))))))))))))
    (pdss_cons (pds_set (i := 3) sc.nd (pd_op opd_add (dv 3) (pd_lst (pda_cons pd_str (pda_cons pd_str (pda_cons pd_str (pda_cons pd_str (pda_cons (pd_op opd_add pd_str (pd_op opd_mulT pd_str pd_int)) (pda_cons pd_str (pda_cons pd_str pda_nil))))))))))
    (pdss_cons (pds_if (pdt_not (pdt (pd_call (o_law_like.mono (by decide)) hr (pda_cons (pd_call (o_read_deed.mono (by decide)) hr (pda_cons (pd_op opd_add pd_str (pd_op opd_mulT pd_str pd_int)) pda_nil)) (pda_cons (pd_tup (pda_cons pd_str (pda_cons (pd_type calld_int T.g_int (pd_op opd_mulT pd_str pd_int)) pda_nil))) pda_nil))))) (pdss_one (pds_ret pd_bl)) pdss_nil)
    (pdss_one (pds_ret (pd_bltn calld_all T.g_all (pd_lc (own := [("_law_text", 4)]) sc.nd (pdi_lst (dv 3)) (blkOk_by (own := [("_law_text", 4)]) (N := N_law) (sc := defScope s_law) (by decide +kernel)) (fun _ _ _ _ _ => (pdg_name (i := 4) sc.nd)) (fun _ _ _ _ _ => pdts_nil) (fun _ _ _ _ _ => (pd_call (o_law_like.mono (by decide)) hr (pda_cons (pd_ref (j := 8) o_law_refused T.hcs TB rfl hr (by decide) (LamX.lamS_by (by show LamX.lamSB (defScope s_law) _ = true; decide +kernel)) (fun A outer s1 H1 E f c' hr => (pdx_call takes_lam (o_read_deed.mono (by decide)) hr (pda_cons (dv 4) pda_nil)))) (pda_cons (pd_tup (pda_cons pd_str (pda_cons pd_int pda_nil))) pda_nil))))))))))))))) (r_law _)
end
theorem txt {w : World} {K : PySem.W.Frag} {h : Heap} {mg : Str → Option Value} (X : K.In h) (G : h.Ns mainGlobals mg) (c : SaysX fbl fal fnl K) (ct : ∀ t ∈ tsl, ∃ es n, L2.KDict K w (t.1 K) es n) : Txt w K mg where
  c_FIGURES_deeds := He.str_ok X G (c.d.fact 33 (f := .str "FIGURES_deeds" "0123456789") rfl)
  c_FIGURES_writers := He.str_ok X G (c.d.fact 34 (f := .str "FIGURES_writers" "0123") rfl)
  c_LETTERS := He.str_ok X G (c.d.fact 35 (f := .str "LETTERS" "abcdefghijklmnopqrstuvwxyz") rfl)
  c_LONGEST := He.int_ok X G (c.d.fact 36 (f := .int "LONGEST" 6) rfl)
  c_MOST_ARROWS := He.int_ok X G (c.d.fact 37 (f := .int "MOST_ARROWS" 9) rfl)
  c_MOST_COUNT := He.int_ok X G (c.d.fact 38 (f := .int "MOST_COUNT" 3) rfl)
  c_MOST_FIGURES := He.int_ok X G (c.d.fact 39 (f := .int "MOST_FIGURES" 30) rfl)
  c_MOST_PLACE := He.int_ok X G (c.d.fact 40 (f := .int "MOST_PLACE" 2) rfl)
  g_all := He.free_ok X G (c.d.fact 41 (f := .free "all") rfl)
  g_bool := He.free_ok X G (c.d.fact 42 (f := .free "bool") rfl)
  g_int := He.free_ok X G (c.d.fact 43 (f := .free "int") rfl)
  g_isinstance := He.free_ok X G (c.d.fact 44 (f := .free "isinstance") rfl)
  g_len := He.free_ok X G (c.d.fact 45 (f := .free "len") rfl)
  g_list := He.free_ok X G (c.d.fact 46 (f := .free "list") rfl)
  g_max := He.free_ok X G (c.d.fact 47 (f := .free "max") rfl)
  g_range := He.free_ok X G (c.d.fact 48 (f := .free "range") rfl)
  g_set := He.free_ok X G (c.d.fact 49 (f := .free "set") rfl)
  g_sorted := He.free_ok X G (c.d.fact 50 (f := .free "sorted") rfl)
  g_str := He.free_ok X G (c.d.fact 51 (f := .free "str") rfl)
  g_tuple := He.free_ok X G (c.d.fact 52 (f := .free "tuple") rfl)
  g_zip := He.free_ok X G (c.d.fact 53 (f := .free "zip") rfl)
  m_FORMS := ⟨He.glo_ok X G (c.d.fact 54 (f := .glo "FORMS") rfl), tbl_strs (ks := ["come", "leave", "change", "sign", "said", "denied", "unsay", "watch", "unwatch"]) (zs := ["w", "n", "w", "s", "bn", "bn", "b", "b", "b"]) (ct _ List.mem_cons_self) (c.b 0 (f := fb0) rfl) (by decide +kernel)⟩
  x_InkError := inkB_ok X G (c.b 1 (f := fb1) rfl)
  i_InkError := let ⟨fd, F⟩ := c.d.def_ 29 (d := dd_InkError___init__) rfl; ⟨fd, _, F, rfl⟩
  x_Missing := He.glo_ok X G (c.d.fact 55 (f := .glo "Missing") rfl)
  x_NothingLeft := He.glo_ok X G (c.d.fact 56 (f := .glo "NothingLeft") rfl)
  g_ValueError := He.free_ok X G (c.d.fact 57 (f := .free "ValueError") rfl)
  x_BadText := badB_ok X G (c.b 2 (f := fb2) rfl)
  i_BadText := c.d.def_ 30 (d := dd_BadText___init__) rfl
  xf := fun nm hn => by
    simp only [excs, List.mem_cons, List.not_mem_nil, or_false] at hn
    rcases hn with rfl
    · exact let b := badB_ok X G (c.b 2 (f := fb2) rfl); ⟨b.xf, b.c.word⟩
  noF := fun nm hn => by
    simp only [excs, List.mem_cons, List.not_mem_nil, or_false] at hn
    rcases hn with rfl
    · exact fun f hf => (List.mem_cons.mp hf).elim (fun z => by rw [z]; exact (badB_ok X G (c.b 2 (f := fb2) rfl)).c.word) (fun z => atB_ok (c.b 3 (f := fb3) rfl) f z)
  hcs := fun nm hn => by
    simp only [excs, List.mem_cons, List.not_mem_nil, or_false] at hn
    rcases hn with rfl
    · exact (badB_ok X G (c.b 2 (f := fb2) rfl)).ex
  d_law_bag := ⟨_, (c.d.def_ 0 (d := dd_law_bag) rfl).choose, (c.d.def_ 0 (d := dd_law_bag) rfl).choose_spec, He.glo_ok X G (c.d.fact 0 (f := .glo "_law_bag") rfl)⟩
  d_law_writer_text := ⟨_, (c.d.def_ 1 (d := dd_law_writer_text) rfl).choose, (c.d.def_ 1 (d := dd_law_writer_text) rfl).choose_spec, He.glo_ok X G (c.d.fact 1 (f := .glo "_law_writer_text") rfl)⟩
  d_law_deed_text := ⟨_, (c.d.def_ 2 (d := dd_law_deed_text) rfl).choose, (c.d.def_ 2 (d := dd_law_deed_text) rfl).choose_spec, He.glo_ok X G (c.d.fact 2 (f := .glo "_law_deed_text") rfl)⟩
  d_law_pull := ⟨_, (c.d.def_ 3 (d := dd_law_pull) rfl).choose, (c.d.def_ 3 (d := dd_law_pull) rfl).choose_spec, He.glo_ok X G (c.d.fact 3 (f := .glo "_law_pull") rfl)⟩
  d_law_of := ⟨_, (c.d.def_ 4 (d := dd_law_of) rfl).choose, (c.d.def_ 4 (d := dd_law_of) rfl).choose_spec, He.glo_ok X G (c.d.fact 4 (f := .glo "_law_of") rfl)⟩
  d_law_farB := ⟨_, (c.d.def_ 5 (d := dd_law_farB) rfl).choose, (c.d.def_ 5 (d := dd_law_farB) rfl).choose_spec, He.glo_ok X G (c.d.fact 5 (f := .glo "_law_far") rfl)⟩
  d_law_writer := ⟨_, (c.d.def_ 6 (d := dd_law_writer) rfl).choose, (c.d.def_ 6 (d := dd_law_writer) rfl).choose_spec, He.glo_ok X G (c.d.fact 6 (f := .glo "_law_writer") rfl)⟩
  d_law_every_deed := ⟨_, (c.d.def_ 7 (d := dd_law_every_deed) rfl).choose, (c.d.def_ 7 (d := dd_law_every_deed) rfl).choose_spec, He.glo_ok X G (c.d.fact 7 (f := .glo "_law_every_deed") rfl)⟩
  d_law_letters := ⟨_, (c.d.def_ 8 (d := dd_law_letters) rfl).choose, (c.d.def_ 8 (d := dd_law_letters) rfl).choose_spec, He.glo_ok X G (c.d.fact 8 (f := .glo "_law_letters") rfl)⟩
  d_law_names := ⟨_, (c.d.def_ 9 (d := dd_law_names) rfl).choose, (c.d.def_ 9 (d := dd_law_names) rfl).choose_spec, He.glo_ok X G (c.d.fact 9 (f := .glo "_law_names") rfl)⟩
  d_law_signs := ⟨_, (c.d.def_ 10 (d := dd_law_signs) rfl).choose, (c.d.def_ 10 (d := dd_law_signs) rfl).choose_spec, He.glo_ok X G (c.d.fact 10 (f := .glo "_law_signs") rfl)⟩
  d_law_bent_text := ⟨_, (c.d.def_ 11 (d := dd_law_bent_text) rfl).choose, (c.d.def_ 11 (d := dd_law_bent_text) rfl).choose_spec, He.glo_ok X G (c.d.fact 11 (f := .glo "_law_bent_text") rfl)⟩
  d_law_is_name := ⟨_, (c.d.def_ 12 (d := dd_law_is_name) rfl).choose, (c.d.def_ 12 (d := dd_law_is_name) rfl).choose_spec, He.glo_ok X G (c.d.fact 12 (f := .glo "_law_is_name") rfl)⟩
  d_law_arrow_in := ⟨_, (c.d.def_ 13 (d := dd_law_arrow_in) rfl).choose, (c.d.def_ 13 (d := dd_law_arrow_in) rfl).choose_spec, He.glo_ok X G (c.d.fact 13 (f := .glo "_law_arrow_in") rfl)⟩
  d_law_is_writer := ⟨_, (c.d.def_ 14 (d := dd_law_is_writer) rfl).choose, (c.d.def_ 14 (d := dd_law_is_writer) rfl).choose_spec, He.glo_ok X G (c.d.fact 14 (f := .glo "_law_is_writer") rfl)⟩
  d_law_writer_in := ⟨_, (c.d.def_ 15 (d := dd_law_writer_in) rfl).choose, (c.d.def_ 15 (d := dd_law_writer_in) rfl).choose_spec, He.glo_ok X G (c.d.fact 15 (f := .glo "_law_writer_in") rfl)⟩
  d_law_number_in := ⟨_, (c.d.def_ 16 (d := dd_law_number_in) rfl).choose, (c.d.def_ 16 (d := dd_law_number_in) rfl).choose_spec, He.glo_ok X G (c.d.fact 16 (f := .glo "_law_number_in") rfl)⟩
  d_law_deed_in := ⟨_, (c.d.def_ 17 (d := dd_law_deed_in) rfl).choose, (c.d.def_ 17 (d := dd_law_deed_in) rfl).choose_spec, He.glo_ok X G (c.d.fact 17 (f := .glo "_law_deed_in") rfl)⟩
  d_law_field := ⟨_, (c.d.def_ 18 (d := dd_law_field) rfl).choose, (c.d.def_ 18 (d := dd_law_field) rfl).choose_spec, He.glo_ok X G (c.d.fact 18 (f := .glo "_law_field") rfl)⟩
  d_law_tried := ⟨_, (c.d.def_ 19 (d := dd_law_tried) rfl).choose, (c.d.def_ 19 (d := dd_law_tried) rfl).choose_spec, He.glo_ok X G (c.d.fact 19 (f := .glo "_law_tried") rfl)⟩
  d_arrow_in := ⟨_, (c.d.def_ 20 (d := dd_arrow_in) rfl).choose, (c.d.def_ 20 (d := dd_arrow_in) rfl).choose_spec, He.glo_ok X G (c.d.fact 20 (f := .glo "arrow_in") rfl)⟩
  d_is_name := ⟨_, (c.d.def_ 21 (d := dd_is_name) rfl).choose, (c.d.def_ 21 (d := dd_is_name) rfl).choose_spec, He.glo_ok X G (c.d.fact 21 (f := .glo "is_name") rfl)⟩
  d_is_sign := ⟨_, (c.d.def_ 22 (d := dd_is_sign) rfl).choose, (c.d.def_ 22 (d := dd_is_sign) rfl).choose_spec, He.glo_ok X G (c.d.fact 22 (f := .glo "is_sign") rfl)⟩
  d_is_arrow := ⟨_, (c.d.def_ 23 (d := dd_is_arrow) rfl).choose, (c.d.def_ 23 (d := dd_is_arrow) rfl).choose_spec, He.glo_ok X G (c.d.fact 23 (f := .glo "is_arrow") rfl)⟩
  d_is_writer := ⟨_, (c.d.def_ 24 (d := dd_is_writer) rfl).choose, (c.d.def_ 24 (d := dd_is_writer) rfl).choose_spec, He.glo_ok X G (c.d.fact 24 (f := .glo "is_writer") rfl)⟩
  d_writer_in := ⟨_, (c.d.def_ 25 (d := dd_writer_in) rfl).choose, (c.d.def_ 25 (d := dd_writer_in) rfl).choose_spec, He.glo_ok X G (c.d.fact 25 (f := .glo "writer_in") rfl)⟩
  d_number_in := ⟨_, (c.d.def_ 26 (d := dd_number_in) rfl).choose, (c.d.def_ 26 (d := dd_number_in) rfl).choose_spec, He.glo_ok X G (c.d.fact 26 (f := .glo "number_in") rfl)⟩
  d_thing_in := ⟨_, (c.d.def_ 27 (d := dd_thing_in) rfl).choose, (c.d.def_ 27 (d := dd_thing_in) rfl).choose_spec, He.glo_ok X G (c.d.fact 27 (f := .glo "thing_in") rfl)⟩
  d_deed_in := ⟨_, (c.d.def_ 28 (d := dd_deed_in) rfl).choose, (c.d.def_ 28 (d := dd_deed_in) rfl).choose_spec, He.glo_ok X G (c.d.fact 28 (f := .glo "deed_in") rfl)⟩
  d_read_deed := ⟨_, (c.d.def_ 31 (d := dd_read_deed) rfl).choose, (c.d.def_ 31 (d := dd_read_deed) rfl).choose_spec, He.glo_ok X G (c.d.fact 29 (f := .glo "read_deed") rfl)⟩
  d_law_like := ⟨_, (c.d.def_ 32 (d := dd_law_like) rfl).choose, (c.d.def_ 32 (d := dd_law_like) rfl).choose_spec, He.glo_ok X G (c.d.fact 30 (f := .glo "_law_like") rfl)⟩
  d_law_refused := ⟨_, (c.d.def_ 33 (d := dd_law_refused) rfl).choose, (c.d.def_ 33 (d := dd_law_refused) rfl).choose_spec, He.glo_ok X G (c.d.fact 31 (f := .glo "_law_refused") rfl)⟩
  d_law := ⟨_, (c.d.def_ 34 (d := dd_law) rfl).choose, (c.d.def_ 34 (d := dd_law) rfl).choose_spec, He.glo_ok X G (c.d.fact 32 (f := .glo "law") rfl)⟩
theorem facts {P : Program} {w : World} {K : PySem.W.Frag} {h : Heap} {mg : Str → Option Value} {f : Addr} (X : K.In h) (G : h.Ns mainGlobals mg) (hfa : mg ("law" : Str) = some (.ref f)) (c : SaysX fbl fal fnl K) (ct : ∀ t ∈ tsl, ∃ es n, L2.KDict K w (t.1 K) es n) :
    ∃ fd : FuncData, (∀ (s : Shared) (v : Value), BindsTo s fd ⟨[v], []⟩ [("_law_script", v)]) ∧ ∀ base : Heap, K.In base → base.Ns mainGlobals mg → LamX.TabB base mg (He.cT K ("law", none)).1 (He.cT K ("law", none)).2 → FnOk P w K mg base (L2N.CX P w) 12 f fd ["_law_script"] (upSp K 1 (sp_lawT (He.cT K ("law", none)).2)) := by
  obtain ⟨fd, F⟩ := c.d.def_ 34 (d := dd_law) rfl
  have e := hfa.symm.trans (He.glo_ok X G (c.d.fact 32 (f := .glo "law") rfl))
  cases e
  have T := txt X G c ct
  refine ⟨fd, fun s v => FunD.bindsA (ps := ["_law_script"]) F (fun _ _ _ _ _ _ us hl => match us, hl with | [_], _ => rfl) s [v] rfl, fun base _ _ TB => ?_⟩
  have o_law_bag := ok_law_bag (P := P) (w := w) (base := base) T
  have o_law_writer_text := ok_law_writer_text (P := P) (w := w) (base := base) T
  have o_law_deed_text := ok_law_deed_text (P := P) (w := w) (base := base) T o_law_writer_text
  have o_law_pull := ok_law_pull (P := P) (w := w) (base := base) T
  have o_law_of := ok_law_of (P := P) (w := w) (base := base) T o_law_pull
  have o_law_farB := ok_law_farB (P := P) (w := w) (base := base) T o_law_pull o_law_of
  have o_law_writer := ok_law_writer (P := P) (w := w) (base := base) T o_law_pull o_law_of
  have o_law_every_deed := ok_law_every_deed (P := P) (w := w) (base := base) T o_law_of o_law_farB o_law_pull o_law_writer
  have o_law_letters := ok_law_letters (P := P) (w := w) (base := base) T
  have o_law_names := ok_law_names (P := P) (w := w) (base := base) T o_law_pull o_law_letters o_law_of
  have o_law_signs := ok_law_signs (P := P) (w := w) (base := base) T o_law_pull o_law_of o_law_letters
  have o_law_bent_text := ok_law_bent_text (P := P) (w := w) (base := base) T o_law_pull o_law_of
  have o_law_is_name := ok_law_is_name (P := P) (w := w) (base := base) T o_law_letters
  have o_law_arrow_in := ok_law_arrow_in (P := P) (w := w) (base := base) T o_law_is_name
  have o_law_is_writer := ok_law_is_writer (P := P) (w := w) (base := base) T o_law_is_name
  have o_law_writer_in := ok_law_writer_in (P := P) (w := w) (base := base) T o_law_arrow_in o_law_is_writer
  have o_law_number_in := ok_law_number_in (P := P) (w := w) (base := base) T
  have o_law_deed_in := ok_law_deed_in (P := P) (w := w) (base := base) T o_law_writer_in o_law_number_in o_law_is_name
  have o_law_field := ok_law_field (P := P) (w := w) (base := base) T
  have o_arrow_in := ok_arrow_in (P := P) (w := w) (base := base) T
  have o_is_name := ok_is_name (P := P) (w := w) (base := base) T
  have o_is_sign := ok_is_sign (P := P) (w := w) (base := base) T
  have o_is_arrow := ok_is_arrow (P := P) (w := w) (base := base) T o_is_sign
  have o_is_writer := ok_is_writer (P := P) (w := w) (base := base) T o_is_name o_is_arrow
  have o_writer_in := ok_writer_in (P := P) (w := w) (base := base) T o_arrow_in o_is_writer
  have o_number_in := ok_number_in (P := P) (w := w) (base := base) T
  have o_thing_in := ok_thing_in (P := P) (w := w) (base := base) T o_writer_in o_number_in o_is_name o_is_sign
  have o_deed_in := ok_deed_in (P := P) (w := w) (base := base) T o_thing_in
  have o_InkError := ok_InkError (P := P) (w := w) (base := base) T
  have b_BadText := ok_b_BadText (P := P) (w := w) (base := base) T o_InkError
  have o_read_deed := ok_read_deed (P := P) (w := w) (base := base) T o_deed_in b_BadText
  have o_law_like := oks_law_like (P := P) (w := w) (base := base) T 8
  have o_law_tried := ok_law_tried (k := 10) (P := P) (w := w) (base := base) T (o_law_field.mono (by decide))
  have o_law_tried1 := ok_law_tried (k := 9) (P := P) (w := w) (base := base) T (o_law_field.mono (by decide))
  have o_law_refused := ok_law_refused (k := 10) (P := P) (w := w) (base := base) T o_law_tried1
  exact fn_law F T o_law_bag o_law_deed_text o_law_of o_law_every_deed o_law_names o_law_signs o_law_pull o_law_bent_text o_law_deed_in o_read_deed o_law_like TB o_law_refused o_law_tried
end L3
open PySem PySem.W PySem.Calls PyProof.Rows
theorem PySem.Challenge.cw_whoseink_k52_deed_texts_refused_holds : PySem.Challenge.rw_whoseink_k52_deed_texts_refused.Holds := by
  refine L3.head_of ?_
  intro w mg fa h Y G hmg0
  obtain ⟨K, KX, c⟩ := Y
  have hmg : mg ("law" : PySem.Str) = some (.ref fa) := by
    exact hmg0
  obtain ⟨fd, hb, hF⟩ := L3.facts (P := PySem.W.OpenLaw.prog PySem.Challenge.rw_whoseink_k52_deed_texts_refused) (w := w) KX G hmg c.c c.tab
  have one : ∀ p ∈ [He.cT K ("law", none)], p = He.cT K ("law", none) := fun p hp => List.mem_singleton.mp hp
  have mem : (("law" : PySem.Str), (none : Option PySem.Str)) ∈ L3.tfl := List.mem_singleton_self _
  exact ⟨K, KX, fd, [He.cT K ("law", none)], L3.upSp K 1 (L3.sp_lawT (He.cT K ("law", none)).2), fun p hp => by rw [one p hp]; exact c.empty _ mem, fun p hp => by rw [one p hp]; exact c.out _ mem, fun p hp => by rw [one p hp]; exact PySem.W.codeHd_of_K KX (c.hd _ mem), hb, fun H a ns hl _ hH hS => L3.law_startT (hH _ (List.mem_singleton_self _)) hS (L3.law_okT _ ns), fun base hK hN hT => hF base hK hN (hT _ (List.mem_singleton_self _))⟩
