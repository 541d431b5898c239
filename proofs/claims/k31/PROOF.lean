import PyProof.Rows.All
import Wide.All
import OpenK.AllK
import Wide.FinOn
import HandS.ForMost
import HandS.HeadHook1
import HandS.Deep
import HandS.IsInst
import HandS.Style
import HandS.TupAny
import HandS.TupMul
import HandS.Flow
import HandS.Defaults
import HandS.Zip
import KE.SortData
import KE.DataMinMax
import KE.LtData
import KE.KDictKeyed
import KE.DataEq
import KE.DataCmp
import KE.DataFind
import HandS.SortKw
import HandS.Dict
import HandS.TupLen
import HandS.WordsDict
import HandS.Codes
import HandS.DictComp
import HandS.DeepEq
import HandS.Sort
import HandS.Conv
import KE.GoesEnum
import HandS.IterVal
import KE.GoesMore
import KE.GoesZip
import HandS.ExcOwn
import HandS.ExcIs
import HandS.HeadHook4
import PyProof.TupleOfSeq
import KE.KIndexOf
import KE.KAssignIn
import KE.KStateDown
import HandS.Base
import HandS.Call
import HandS.Ends
import HandS.More
import HandS.Words
import HandS.WordsExc
import HandS.Head0
import HandS.Head1
import HandS.Head2
import HandS.HeadEnd
import HandS.HeadHook2
import HandS.HeadHook3
import PySem.Challenge.RW_clockways_k31_plans_joined
set_option Elab.async false
set_option linter.all false
set_option maxRecDepth 100000
set_option maxHeartbeats 4000000
/-! MP: data over the hand layer. -/
namespace MP
open PySem PySem.Spec PyProof.Rows L2

/-- a value as data: tuples by what they hold, other objects by where they stand -/
inductive D where
  | non | bl (b : Bool) | int (i : Int) | str (x : Str) | tup (xs : List D) | ref (a : Addr) | ty (n : String)
  /-- a list that nobody changes (the script) -/
  | fl (xs : List D)
instance : Inhabited D := ⟨.non⟩

/-- an object that can change, by what it holds -/
inductive MO where
  | lst (xs : List D)
  | dic (kvs : List (D × D))
  | ins (cn : Str) (fs : List (Str × D))
  | pool (r c : Addr) (n : Nat)
  | sub (p : Addr)
  | rg (lo hi : Int)
  | fd (kvs : List (D × D)) (t : List (NestedKey × Addr × Value) × Obj)
abbrev Mem := Addr → Option MO
def mupd (M : Mem) (a : Addr) (o : MO) : Mem := fun b => if b = a then some o else M b
theorem mupd_same {M : Mem} {a : Addr} {o : MO} : mupd M a o a = some o := by unfold mupd; rw [if_pos rfl]
theorem mupd_ne {M : Mem} {a b : Addr} {o : MO} (h : b ≠ a) : mupd M a o b = M b := by unfold mupd; rw [if_neg h]
theorem mupd_mupd {M : Mem} {a : Addr} {o u : MO} : mupd (mupd M a o) a u = mupd M a u := by
  funext b; unfold mupd; split <;> rfl

/-! ### relations to the layer's values and heaps -/
def TupAt (K : PySem.W.Frag) (H : Hp) (a : Addr) (xs : List V) : Prop :=
  H a = some (.tup xs) ∨
    (∃ (o : Obj) (its : Array Value) (n : Nat), K.lookup a = some o ∧ o.cls = .type "tuple" ∧ o.data = .seq its n ∧ its.size ≤ sizeLine ∧ Vals xs its.toList) ∨
    ∃ o, H a = some (.frz o (.tup xs))
theorem TupAt.sq {K : PySem.W.Frag} {H : Hp} {a : Addr} {xs : List V} (h : TupAt K H a xs) : SqT K H a xs := by
  rcases h with h | h | h
  · exact .inl (.inl h)
  · exact .inr h
  · exact .inl (.inr h)
def FlAt (K : PySem.W.Frag) (H : Hp) (a : Addr) (xs : List V) : Prop :=
  (∃ o, H a = some (.frz o (.lst xs))) ∨
    ∃ (o : Obj) (its : Array Value) (n : Nat), K.lookup a = some o ∧ o.cls = .type "list" ∧ o.dict = none ∧ o.data = .seq its n ∧ its.size ≤ sizeLine ∧ Vals xs its.toList
theorem FlAt.sq {K : PySem.W.Frag} {H : Hp} {a : Addr} {xs : List V} (h : FlAt K H a xs) : SqL K H a xs := by
  rcases h with h | h
  · exact .inl (.inr h)
  · exact .inr h
mutual
inductive RelD (K : PySem.W.Frag) (H : Hp) : D → V → Prop
  | non : RelD K H .non .non
  | bl (b : Bool) : RelD K H (.bl b) (.bl b)
  | int (i : Int) : RelD K H (.int i) (.int i)
  | str (x : Str) : RelD K H (.str x) (.str x)
  | tup {a : Addr} {ds : List D} {xs : List V} : TupAt K H a xs → RelDs K H ds xs → RelD K H (.tup ds) (.ref a)
  | ref (a : Addr) : RelD K H (.ref a) (.ref a)
  | ty (n : String) : RelD K H (.ty n) (.ty n)
  | fl {a : Addr} {ds : List D} {xs : List V} : FlAt K H a xs → RelDs K H ds xs → RelD K H (.fl ds) (.ref a)
inductive RelDs (K : PySem.W.Frag) (H : Hp) : List D → List V → Prop
  | nil : RelDs K H [] []
  | cons {d : D} {v : V} {ds : List D} {vs : List V} : RelD K H d v → RelDs K H ds vs → RelDs K H (d :: ds) (v :: vs)
end
section
variable {K : PySem.W.Frag} {H H' : Hp}
theorem RelDs.length : ∀ {ds : List D} {vs : List V}, RelDs K H ds vs → ds.length = vs.length
  | _, _, .nil => rfl
  | _, _, .cons _ t => by rw [List.length_cons, List.length_cons, RelDs.length t]
theorem RelDs.get : ∀ {ds : List D} {vs : List V} {i : Nat} {d : D}, RelDs K H ds vs → ds[i]? = some d → ∃ v, vs[i]? = some v ∧ RelD K H d v
  | _, _, _, _, .nil, e => by simp at e
  | _, _, 0, _, .cons r _, e => by simp at e; subst e; exact ⟨_, rfl, r⟩
  | _, _, i + 1, d, .cons _ t, e => by
    obtain ⟨u, h1, h2⟩ := RelDs.get (i := i) (d := d) t (by simpa using e)
    exact ⟨u, by simpa using h1, h2⟩
theorem RelDs.getV : ∀ {ds : List D} {vs : List V} {i : Nat} {v : V}, RelDs K H ds vs → vs[i]? = some v → ∃ d, ds[i]? = some d ∧ RelD K H d v
  | _, _, _, _, .nil, e => by simp at e
  | _, _, 0, _, .cons r _, e => by simp at e; subst e; exact ⟨_, rfl, r⟩
  | _, _, i + 1, d, .cons _ t, e => by
    obtain ⟨u, h1, h2⟩ := RelDs.getV (i := i) (v := d) t (by simpa using e)
    exact ⟨u, by simpa using h1, h2⟩
theorem RelDs.append : ∀ {ds es : List D} {vs ws : List V}, RelDs K H ds vs → RelDs K H es ws → RelDs K H (ds ++ es) (vs ++ ws)
  | _, _, _, _, .nil, s => s
  | _, _, _, _, .cons r t, s => .cons r (RelDs.append t s)
theorem RelDs.take : ∀ {ds : List D} {vs : List V} (n : Nat), RelDs K H ds vs → RelDs K H (ds.take n) (vs.take n)
  | _, _, 0, _ => .nil
  | _, _, _ + 1, .nil => .nil
  | _, _, n + 1, .cons r t => .cons r (RelDs.take n t)
theorem RelDs.drop : ∀ {ds : List D} {vs : List V} (n : Nat), RelDs K H ds vs → RelDs K H (ds.drop n) (vs.drop n)
  | _, _, 0, r => r
  | _, _, _ + 1, .nil => .nil
  | _, _, n + 1, .cons _ t => RelDs.drop n t
theorem RelDs.set : ∀ {ds : List D} {vs : List V} {d : D} {v : V} (n : Nat), RelD K H d v → RelDs K H ds vs → RelDs K H (ds.set n d) (vs.set n v)
  | _, _, _, _, _, _, .nil => .nil
  | _, _, _, _, 0, r, .cons _ t => .cons r t
  | _, _, _, _, n + 1, r, .cons q t => .cons q (RelDs.set n r t)
theorem RelDs.eraseIdx : ∀ {ds : List D} {vs : List V} (n : Nat), RelDs K H ds vs → RelDs K H (ds.eraseIdx n) (vs.eraseIdx n)
  | _, _, _, .nil => .nil
  | _, _, 0, .cons _ t => t
  | _, _, n + 1, .cons q t => .cons q (RelDs.eraseIdx n t)
theorem RelDs.dropLast : ∀ {ds : List D} {vs : List V}, RelDs K H ds vs → RelDs K H ds.dropLast vs.dropLast
  | _, _, .nil => .nil
  | _, _, .cons _ .nil => .nil
  | _, _, .cons q (.cons r t) => .cons q (RelDs.dropLast (.cons r t))
theorem RelDs.reverse : ∀ {ds : List D} {vs : List V}, RelDs K H ds vs → RelDs K H ds.reverse vs.reverse
  | _, _, .nil => .nil
  | _, _, .cons q t => by
    rw [List.reverse_cons, List.reverse_cons]
    exact (RelDs.reverse t).append (.cons q .nil)
theorem RelDs.rep {ds : List D} {vs : List V} (r : RelDs K H ds vs) : ∀ k : Nat, RelDs K H (List.replicate k ds).flatten (List.replicate k vs).flatten
  | 0 => .nil
  | k + 1 => by
    rw [List.replicate_succ, List.replicate_succ, List.flatten_cons, List.flatten_cons]
    exact r.append (RelDs.rep r k)
theorem RelDs.nil_iff {ds : List D} {vs : List V} (r : RelDs K H ds vs) : vs = [] ↔ ds = [] := by
  cases r <;> simp
/-- tuples that stand stay -/
def Keep (H H' : Hp) : Prop := (∀ a xs, H a = some (.tup xs) → H' a = some (.tup xs)) ∧ ∀ a o u, H a = some (.frz o u) → H' a = some (.frz o u)
theorem TupAt.keep {a : Addr} {xs : List V} (k : Keep H H') (h : TupAt K H a xs) : TupAt K H' a xs := by
  rcases h with h | h | ⟨o, h⟩
  · exact .inl (k.1 _ _ h)
  · exact .inr (.inl h)
  · exact .inr (.inr ⟨o, k.2 _ _ _ h⟩)
theorem FlAt.keep {a : Addr} {xs : List V} (k : Keep H H') (h : FlAt K H a xs) : FlAt K H' a xs := by
  rcases h with ⟨o, h⟩ | h
  · exact .inl ⟨o, k.2 _ _ _ h⟩
  · exact .inr h
mutual
theorem RelD.keep (k : Keep H H') : ∀ {d : D} {v : V}, RelD K H d v → RelD K H' d v
  | _, _, .non => .non
  | _, _, .bl b => .bl b
  | _, _, .int i => .int i
  | _, _, .str x => .str x
  | _, _, .tup h r => .tup (h.keep k) (RelDs.keep k r)
  | _, _, .ref a => .ref a
  | _, _, .ty n => .ty n
  | _, _, .fl h r => .fl (h.keep k) (RelDs.keep k r)
theorem RelDs.keep (k : Keep H H') : ∀ {ds : List D} {vs : List V}, RelDs K H ds vs → RelDs K H' ds vs
  | _, _, .nil => .nil
  | _, _, .cons r t => .cons (RelD.keep k r) (RelDs.keep k t)
end
end

/-- a dict with tuple keys, by its entries as they lie -/
def RawD (P : Program) (w : World) (d : Addr) (L : List (NestedKey × Addr × Value)) : HO :=
  .ext fun h => L.length ≤ sizeLine ∧ (d == sysModules) = false ∧ ∃ o es ep, h.get? d = some o ∧ o.ExactDict ∧ o.data = .dict es ep ∧ es.toList = L.map (entryOfKey (nestedKind P w)) ∧ (L.map (·.1)).Nodup
/-- .. the dict's one object known as it stands -/
def FzD (P : Program) (w : World) (d : Addr) (t : List (NestedKey × Addr × Value) × Obj) : HO :=
  .ext fun h => t.1.length ≤ sizeLine ∧ (d == sysModules) = false ∧ ∃ es ep, h.get? d = some t.2 ∧ t.2.ExactDict ∧ t.2.data = .dict es ep ∧ es.toList = t.1.map (entryOfKey (nestedKind P w)) ∧ (t.1.map (·.1)).Nodup
mutual
/-- a datum as a dict's key -/
def D.key : D → Option NestedKey
  | .non => some .none
  | .bl b => some (.num (if b = true then 1 else 0))
  | .int i => some (.num i)
  | .str x => some (.text x)
  | .tup xs => (D.keys xs).map .tup
  | .ref _ => none
  | .ty _ => none
  | .fl _ => none
def D.keys : List D → Option (List NestedKey)
  | [] => some []
  | x :: xs => match D.key x, D.keys xs with
    | some k, some ks => some (k :: ks)
    | _, _ => none
end
/-- plain keys: ints and texts -/
def D.pkey : D → Option Key
  | .int i => some (.inl i)
  | .str x => some (.inr x)
  | _ => none
def D.isTup : D → Bool
  | .tup _ => true
  | _ => false

section
variable (P : Program) (w : World) (K : PySem.W.Frag)
def RelFs (H : Hp) (fs : List (Str × D)) (gs : List (Str × V)) : Prop := fs.map (·.1) = gs.map (·.1) ∧ RelDs K H (fs.map (·.2)) (gs.map (·.2))
def RelO (H : Hp) (M : Mem) (a : Addr) : MO → Prop
  | .lst ds => ∃ xs, H a = some (.lst xs) ∧ RelDs K H ds xs
  | .dic kvs => (∃ L, H a = some (.dK L) ∧ kvs.map (fun p => p.1.pkey) = L.map (fun p => some p.1) ∧ RelDs K H (kvs.map (·.2)) (L.map (·.2)))
      ∨ (∃ (L : List (NestedKey × Addr × Value)) (vs : List V), H a = some (RawD P w a L) ∧ kvs.map (fun p => p.1.key) = L.map (fun p => some p.1) ∧ RelDs K H (kvs.map (·.1)) (L.map fun p => V.ref p.2.1) ∧ ((∀ p ∈ kvs, p.1.isTup = true) ∧ kvs ≠ [] ∧ ∀ p ∈ L, p.1.depth ≤ 8) ∧ RelDs K H (kvs.map (·.2)) vs ∧ Vals vs (L.map (·.2.2)))
  | .ins cn fs => ∃ dx gs, H a = some (.ins (He.ga K cn) dx gs) ∧ RelFs K H fs gs
  | .pool r c n => ∃ (ns : List Int) (t : Int), H a = some (.lst [.ref r, .ref c]) ∧ H r = some (.lst (ns.map V.int)) ∧ H c = some (.lst [.int t]) ∧ (ns ≠ [] ∧ ns.length ≤ 1000000) ∧ (∀ n ∈ ns, 0 ≤ n) ∧ (0 ≤ t ∧ t ≤ n) ∧ r ≠ a ∧ c ≠ a ∧ r ≠ c ∧ M r = some (.sub a) ∧ M c = some (.sub a)
  | .sub _ => ∃ xs, H a = some (.lst xs)
  | .rg lo hi => H a = some (.rng lo hi)
  | .fd kvs t => ∃ vs : List V, H a = some (FzD P w a t) ∧ kvs.map (fun p => p.1.key) = t.1.map (fun p => some p.1) ∧ RelDs K H (kvs.map (·.1)) (t.1.map fun p => V.ref p.2.1) ∧ ((∀ p ∈ kvs, p.1.isTup = true) ∧ ∀ p ∈ t.1, p.1.depth ≤ 8) ∧ RelDs K H (kvs.map (·.2)) vs ∧ Vals vs (t.1.map (·.2.2))
def RelM (H : Hp) (M : Mem) : Prop := ∀ a o, M a = some o → RelO P w K H M a o
end
/-- what a piece of code leaves: what is tracked and is not M's stands -/
def Step (H : Hp) (M : Mem) (H' : Hp) (M' : Mem) : Prop := ∀ a o, H a = some o → M a = none → H' a = some o ∧ M' a = none
section
variable {P : Program} {w : World} {K : PySem.W.Frag} {H H1 H2 H' : Hp} {M M1 M2 M' : Mem}
theorem Step.refl : Step H M H M := fun _ _ h m => ⟨h, m⟩
theorem Step.trans (a : Step H M H1 M1) (b : Step H1 M1 H2 M2) : Step H M H2 M2 := fun c o h m => let ⟨h1, m1⟩ := a c o h m; b c o h1 m1
/-- what M never speaks of -/
def Still : HO → Prop
  | .tup _ => True
  | .frz _ _ => True
  | _ => False
/-- what M speaks of is tracked, and can change (a range object apart) -/
theorem RelM.mut (R : RelM P w K H M) {a : Addr} {o : MO} (h : M a = some o) (nr : ∀ lo hi, o ≠ .rg lo hi := by intro _ _ z; cases z) : ∃ u, H a = some u ∧ Mut (some u) := by
  have r := R a o h
  cases o with
  | lst ds => obtain ⟨ys, e, _⟩ := r; exact ⟨_, e, trivial⟩
  | dic kvs =>
    rcases r with ⟨L, e, _⟩ | ⟨L, vs, e, _⟩
    · exact ⟨_, e, trivial⟩
    · exact ⟨_, e, trivial⟩
  | ins C fs => obtain ⟨dx, gs, e, _⟩ := r; exact ⟨_, e, trivial⟩
  | pool r' c n' => obtain ⟨ns, t, e, _⟩ := r; exact ⟨_, e, trivial⟩
  | sub q' => obtain ⟨ys, e⟩ := r; exact ⟨_, e, trivial⟩
  | rg lo hi => exact absurd rfl (nr lo hi)
  | fd kvs t => obtain ⟨vs, e, _⟩ := r; exact ⟨_, e, trivial⟩
theorem RelM.there (R : RelM P w K H M) {a : Addr} {o : MO} (h : M a = some o) : ∃ u, H a = some u ∧ ¬ Still u := by
  have r := R a o h
  cases o with
  | rg lo hi => exact ⟨_, r, fun z => z⟩
  | fd kvs t => obtain ⟨vs, e, _⟩ := r; exact ⟨_, e, fun z => z⟩
  | lst ds => obtain ⟨ys, e, _⟩ := r; exact ⟨_, e, fun z => z⟩
  | dic kvs =>
    rcases r with ⟨L, e, _⟩ | ⟨L, vs, e, _⟩
    · exact ⟨_, e, fun z => z⟩
    · exact ⟨_, e, fun z => z⟩
  | ins C fs => obtain ⟨dx, gs, e, _⟩ := r; exact ⟨_, e, fun z => z⟩
  | pool r' c n' => obtain ⟨ns, t, e, _⟩ := r; exact ⟨_, e, fun z => z⟩
  | sub q' => obtain ⟨ys, e⟩ := r; exact ⟨_, e, fun z => z⟩
theorem RelM.nomut (R : RelM P w K H M) {a : Addr} {u : HO} (h : H a = some u) (n : Still u) : M a = none := by
  cases e : M a with
  | none => rfl
  | some o =>
    obtain ⟨u', q, m⟩ := R.there e
    rw [h] at q; cases q
    exact absurd n m
theorem Step.keep (R : RelM P w K H M) (s : Step H M H' M') : Keep H H' :=
  ⟨fun a xs h => (s a _ h (R.nomut h trivial)).1, fun a o u h => (s a _ h (R.nomut h trivial)).1⟩
/-- an address that the heap does not track is free for M -/
theorem RelM.free (R : RelM P w K H M) {a : Addr} (h : H a = none) : M a = none := by
  cases e : M a with
  | none => rfl
  | some o =>
    obtain ⟨u', q, m⟩ := R.there e
    rw [h] at q; cases q
/-- a new tracked object that M does not speak of -/
theorem RelO.step (R : RelM P w K H M) (k : Keep H H') {a : Addr} {o : MO} (r : RelO P w K H M a o) (hH : ∀ b, M b ≠ none → H' b = H b) (ha : M a = some o)
    (hM : ∀ b q, M b = some (.sub q) → M' b = some (.sub q)) : RelO P w K H' M' a o := by
  have hHa : H' a = H a := hH a (by rw [ha]; simp)
  cases o with
  | lst ds => obtain ⟨ys, e, q⟩ := r; exact ⟨ys, hHa.trans e, q.keep k⟩
  | dic kvs =>
    rcases r with ⟨L, e, q1, q2⟩ | ⟨L, vs, e, q1, q2, q3, q4, q5⟩
    · exact .inl ⟨L, hHa.trans e, q1, q2.keep k⟩
    · exact .inr ⟨L, vs, hHa.trans e, q1, q2.keep k, q3, q4.keep k, q5⟩
  | ins C fs => obtain ⟨dx, gs, e, q1, q2⟩ := r; exact ⟨dx, gs, hHa.trans e, q1, q2.keep k⟩
  | pool r' c n' =>
    obtain ⟨ns, t, e, er, ec, h1, h2, h3, h4, h5, h6, h7, h8⟩ := r
    exact ⟨ns, t, hHa.trans e, (hH r' (by rw [h7]; simp)).trans er, (hH c (by rw [h8]; simp)).trans ec, h1, h2, h3, h4, h5, h6, hM _ _ h7, hM _ _ h8⟩
  | sub q' => obtain ⟨ys, e⟩ := r; exact ⟨ys, hHa.trans e⟩
  | rg lo hi => exact hHa.trans r
  | fd kvs t => obtain ⟨vs, e, q1, q2, q3, q4, q5⟩ := r; exact ⟨vs, hHa.trans e, q1, q2.keep k, q3, q4.keep k, q5⟩
/-- a new object that M takes in -/
theorem RelM.laid (R : RelM P w K H M) {p : Addr} {u : HO} {o : MO} (hp : H p = none) (k : Keep H (upd H p u)) (r : RelO P w K (upd H p u) (mupd M p o) p o) : RelM P w K (upd H p u) (mupd M p o) := by
  intro a o' e
  by_cases ha : a = p
  · subst ha; rw [mupd_same] at e; cases e; exact r
  · rw [mupd_ne ha] at e
    refine RelO.step R k (R a o' e) (fun b hb => upd_ne fun z => hb (by rw [z]; exact R.free hp)) e fun b q hb => ?_
    rw [mupd_ne fun z => by rw [z, R.free hp] at hb; cases hb]
    exact hb
theorem keep_new {p : Addr} {u : HO} (hp : H p = none) : Keep H (upd H p u) := by
  refine ⟨fun a xs h => ?_, fun a o v h => ?_⟩
  · rw [upd_ne (ne_of_none h hp)]; exact h
  · rw [upd_ne (ne_of_none h hp)]; exact h
theorem Step.new {p : Addr} {u : HO} (R : RelM P w K H M) (hp : H p = none) (o : MO) : Step H M (upd H p u) (mupd M p o) := fun a v h m =>
  ⟨by rw [upd_ne (ne_of_none h hp)]; exact h, by rw [mupd_ne (ne_of_none h hp)]; exact m⟩
/-- a new object that M lets be -/
theorem RelM.beside (R : RelM P w K H M) {p : Addr} {u : HO} (hp : H p = none) : RelM P w K (upd H p u) M := fun a o e =>
  RelO.step R (keep_new hp) (R a o e) (fun b hb => upd_ne fun z => hb (by rw [z]; exact R.free hp)) e fun _ _ h => h
theorem Step.beside {p : Addr} {u : HO} (hp : H p = none) : Step H M (upd H p u) M := fun a v h m =>
  ⟨by rw [upd_ne (ne_of_none h hp)]; exact h, m⟩
/-- an object of M's is written -/
theorem Step.write {a : Addr} {u : HO} {o o' : MO} (h : M a = some o) : Step H M (upd H a u) (mupd M a o') := fun b v hb m => by
  have ne : b ≠ a := fun z => by rw [z, h] at m; cases m
  exact ⟨by rw [upd_ne ne]; exact hb, by rw [mupd_ne ne]; exact m⟩
theorem RelM.keepW (R : RelM P w K H M) {a : Addr} {u : HO} {o : MO} (h : M a = some o) : Keep H (upd H a u) := by
  obtain ⟨v, hv, m⟩ := R.there h
  refine ⟨fun b xs e => ?_, fun b ob x e => ?_⟩
  · rw [upd_ne]; exact e
    intro z; subst z; rw [hv] at e; cases e; exact m trivial
  · rw [upd_ne]; exact e
    intro z; subst z; rw [hv] at e; cases e; exact m trivial
theorem RelM.write (R : RelM P w K H M) {a : Addr} {u : HO} {o o' : MO} (h : M a = some o) (ns : ∀ q, o ≠ .sub q) (r : RelO P w K (upd H a u) (mupd M a o') a o') : RelM P w K (upd H a u) (mupd M a o') := by
  intro b o2 e
  by_cases hb : b = a
  · subst hb; rw [mupd_same] at e; cases e; exact r
  · rw [mupd_ne hb] at e
    have k := R.keepW (u := u) h
    have hx := R b o2 e
    have hHb : upd H a u b = H b := upd_ne hb
    cases o2 with
    | lst ds => obtain ⟨ys, e, q⟩ := hx; exact ⟨ys, hHb.trans e, q.keep k⟩
    | dic kvs =>
      rcases hx with ⟨L, e, q1, q2⟩ | ⟨L, vs, e, q1, q2, q3, q4, q5⟩
      · exact .inl ⟨L, hHb.trans e, q1, q2.keep k⟩
      · exact .inr ⟨L, vs, hHb.trans e, q1, q2.keep k, q3, q4.keep k, q5⟩
    | ins C fs => obtain ⟨dx, gs, e, q1, q2⟩ := hx; exact ⟨dx, gs, hHb.trans e, q1, q2.keep k⟩
    | pool r' c n' =>
      obtain ⟨ns', t, e, er, ec, h1, h2, h3, h4, h5, h6, h7, h8⟩ := hx
      have nr : r' ≠ a := fun z => by rw [z, h] at h7; exact ns _ (Option.some.inj h7)
      have nc : c ≠ a := fun z => by rw [z, h] at h8; exact ns _ (Option.some.inj h8)
      exact ⟨ns', t, hHb.trans e, (upd_ne nr).trans er, (upd_ne nc).trans ec, h1, h2, h3, h4, h5, h6, (mupd_ne nr).trans h7, (mupd_ne nc).trans h8⟩
    | sub q' => obtain ⟨ys, e⟩ := hx; exact ⟨ys, hHb.trans e⟩
    | rg lo hi => exact hHb.trans hx
    | fd kvs t => obtain ⟨vs, e, q1, q2, q3, q4, q5⟩ := hx; exact ⟨vs, hHb.trans e, q1, q2.keep k, q3, q4.keep k, q5⟩
end
end MP

namespace MP
open PySem PySem.Spec PyProof.Rows L2

/-! ### readings over data -/
/-- the names' values -/
abbrev Sl := List (Option D)
structure WE where
  f : Sl → Mem → (D → Mem → Prop) → Prop
  mono : ∀ ρ M Q Q', (∀ d M, Q d M → Q' d M) → f ρ M Q → f ρ M Q'
structure WT where
  f : Sl → Mem → (Bool → Mem → Prop) → Prop
  mono : ∀ ρ M Q Q', (∀ d M, Q d M → Q' d M) → f ρ M Q → f ρ M Q'
structure WA where
  f : Sl → Mem → (List D → Mem → Prop) → Prop
  mono : ∀ ρ M Q Q', (∀ d M, Q d M → Q' d M) → f ρ M Q → f ρ M Q'
/-- a two-place operation; a one-place one; one of a list of values -/
structure W2 where
  f : D → D → Mem → (D → Mem → Prop) → Prop
  mono : ∀ d e M Q Q', (∀ d M, Q d M → Q' d M) → f d e M Q → f d e M Q'
structure W1 where
  f : D → Mem → (D → Mem → Prop) → Prop
  mono : ∀ d M Q Q', (∀ d M, Q d M → Q' d M) → f d M Q → f d M Q'
structure WN where
  f : List D → Mem → (D → Mem → Prop) → Prop
  mono : ∀ ds M Q Q', (∀ d M, Q d M → Q' d M) → f ds M Q → f ds M Q'

def RelS (K : PySem.W.Frag) (H : Hp) (ρ : Sl) (σ : L2.St) : Prop := ρ.length = σ.length ∧ ∀ (i : Nat) (d : D), ρ[i]? = some (some d) → ∃ v, σ[i]? = some (some v) ∧ RelD K H d v
theorem RelS.keep {K : PySem.W.Frag} {H H' : Hp} {ρ : Sl} {σ : L2.St} (k : Keep H H') (r : RelS K H ρ σ) : RelS K H' ρ σ :=
  ⟨r.1, fun i d e => let ⟨v, h1, h2⟩ := r.2 i d e; ⟨v, h1, h2.keep k⟩⟩
theorem RelS.set {K : PySem.W.Frag} {H : Hp} {ρ : Sl} {σ : L2.St} {d : D} {v : V} (r : RelS K H ρ σ) (i : Nat) (h : RelD K H d v) : RelS K H (ρ.set i (some d)) (σ.set i (some v)) := by
  refine ⟨by rw [List.length_set, List.length_set]; exact r.1, fun j e he => ?_⟩
  by_cases hj : i = j
  · subst hj
    by_cases hi : i < ρ.length
    · rw [List.getElem?_set_self hi] at he
      cases he
      exact ⟨v, by rw [List.getElem?_set_self (by rw [← r.1]; exact hi)], h⟩
    · rw [List.getElem?_eq_none (by rw [List.length_set]; omega)] at he
      cases he
  · rw [List.getElem?_set_ne hj] at he
    obtain ⟨u, h1, h2⟩ := r.2 j e he
    exact ⟨u, by rw [List.getElem?_set_ne hj]; exact h1, h2⟩

section
variable (P : Program) (w : World) (K : PySem.W.Frag)
def Post (H : Hp) (M : Mem) (Q' : D → Mem → Prop) (Q : VK) : Prop := ∀ v d H' M', Step H M H' M' → RelM P w K H' M' → RelD K H' d v → Q' d M' → Q v H'
def lE (t : WE) : TE := fun σ H Q => ∃ ρ M Q', RelS K H ρ σ ∧ RelM P w K H M ∧ t.f ρ M Q' ∧ Post P w K H M Q' Q
def lT (t : WT) : TT := fun σ H Q => ∃ ρ M Q', RelS K H ρ σ ∧ RelM P w K H M ∧ t.f ρ M Q' ∧ ∀ b H' M', Step H M H' M' → RelM P w K H' M' → Q' b M' → Q b H'
def lA (t : WA) : TA := fun σ H Q => ∃ ρ M Q', RelS K H ρ σ ∧ RelM P w K H M ∧ t.f ρ M Q' ∧ ∀ vs ds H' M', Step H M H' M' → RelM P w K H' M' → RelDs K H' ds vs → Q' ds M' → Q vs H'
def l2 (r : W2) : R2 := fun x y H Q => ∃ d e M Q', RelD K H d x ∧ RelD K H e y ∧ RelM P w K H M ∧ r.f d e M Q' ∧ Post P w K H M Q' Q
def l1 (r : W1) : V → Hp → VK → Prop := fun x H Q => ∃ d M Q', RelD K H d x ∧ RelM P w K H M ∧ r.f d M Q' ∧ Post P w K H M Q' Q
def lN (r : WN) : List V → Hp → VK → Prop := fun xs H Q => ∃ ds M Q', RelDs K H ds xs ∧ RelM P w K H M ∧ r.f ds M Q' ∧ Post P w K H M Q' Q
end
structure DE (X : Cx) (e : Expr) (t : WE) : Prop where
  pe : PE X e (lE X.prog X.w X.K t)
structure DT (X : Cx) (e : Expr) (t : WT) : Prop where
  pt : PT X e (lT X.prog X.w X.K t)
structure DW (X : Cx) (e : Expr) (t : WT) : Prop where
  pw : PW X e (lT X.prog X.w X.K t)
structure DA (X : Cx) (es : List Expr) (t : WA) : Prop where
  pa : PA X es (lA X.prog X.w X.K t)
structure D2 (X : Cx) (f : Value → Value → Sem Value) (r : W2) : Prop where
  op : OpR X f (l2 X.prog X.w X.K r)
structure D1 (X : Cx) (f : Value → Sem Value) (r : W1) : Prop where
  op : UnR X f (l1 X.prog X.w X.K r)
structure DN (X : Cx) (f : Value) (r : WN) : Prop where
  op : CallR X f (lN X.prog X.w X.K r)
theorem PE.imp {X : Cx} {e : Expr} {t u : TE} (h : PE X e t) (i : ∀ σ H Q, u σ H Q → t σ H Q) : PE X e u := ⟨fun pins s σ H Q I q => h.run pins s σ H Q I (i _ _ _ q)⟩
theorem PT.imp {X : Cx} {e : Expr} {t u : TT} (h : PT X e t) (i : ∀ σ H Q, u σ H Q → t σ H Q) : PT X e u := ⟨fun pins s σ H Q I q => h.run pins s σ H Q I (i _ _ _ q)⟩
theorem PW.imp {X : Cx} {e : Expr} {t u : TT} (h : PW X e t) (i : ∀ σ H Q, u σ H Q → t σ H Q) : PW X e u := ⟨fun wh pins s σ H Q I q => h.run wh pins s σ H Q I (i _ _ _ q)⟩
theorem PA.imp {X : Cx} {e : List Expr} {t u : TA} (h : PA X e t) (i : ∀ σ H Q, u σ H Q → t σ H Q) : PA X e u := ⟨fun pos pins s σ H Q I q => h.run pos pins s σ H Q I (i _ _ _ q)⟩
theorem DW.dt {X : Cx} {e : Expr} {t : WT} (h : DW X e t) : DT X e t := ⟨h.pw.pt⟩

section
variable {P : Program} {w : World} {K : PySem.W.Frag} {H H' H1 : Hp} {M M' M1 : Mem} {Q' : D → Mem → Prop} {Q : VK}
theorem Post.here (po : Post P w K H M Q' Q) (R : RelM P w K H M) {d : D} {v : V} (r : RelD K H d v) (q : Q' d M) : Q v H := po v d H M Step.refl R r q
theorem Post.after (po : Post P w K H M Q' Q) (s : Step H M H1 M1) : Post P w K H1 M1 Q' Q := fun v d H' M' st => po v d H' M' (s.trans st)
end

/-! ### the combinators -/
def wVar (i : Nat) : WE := ⟨fun ρ M Q => ∃ d, ρ[i]? = some (some d) ∧ Q d M, fun ρ M Q Q' h ⟨d, e, q⟩ => ⟨d, e, h _ _ q⟩⟩
def wC (d : D) : WE := ⟨fun _ M Q => Q d M, fun _ _ _ _ h q => h _ _ q⟩
def wOp (r : W2) (a b : WE) : WE := ⟨fun ρ M Q => a.f ρ M fun d M1 => b.f ρ M1 fun e M2 => r.f d e M2 Q,
  fun ρ M Q Q' h q => a.mono _ _ _ _ (fun _ _ q => b.mono _ _ _ _ (fun _ _ q => r.mono _ _ _ _ _ h q) q) q⟩
def wUn (r : W1) (a : WE) : WE := ⟨fun ρ M Q => a.f ρ M fun d M1 => r.f d M1 Q, fun ρ M Q Q' h q => a.mono _ _ _ _ (fun _ _ q => r.mono _ _ _ _ h q) q⟩
def aNil : WA := ⟨fun _ M Q => Q [] M, fun _ _ _ _ h q => h _ _ q⟩
def aCons (a : WE) (t : WA) : WA := ⟨fun ρ M Q => a.f ρ M fun d M1 => t.f ρ M1 fun ds M2 => Q (d :: ds) M2,
  fun ρ M Q Q' h q => a.mono _ _ _ _ (fun _ _ q => t.mono _ _ _ _ (fun _ _ q => h _ _ q) q) q⟩
def wCB (r : WN) (t : WA) : WE := ⟨fun ρ M Q => t.f ρ M fun ds M1 => r.f ds M1 Q, fun ρ M Q Q' h q => t.mono _ _ _ _ (fun _ _ q => r.mono _ _ _ _ h q) q⟩
def wTup (t : WA) : WE := ⟨fun ρ M Q => t.f ρ M fun ds M1 => ds.length ≤ sizeLine ∧ Q (.tup ds) M1, fun ρ M Q Q' h q => t.mono _ _ _ _ (fun _ _ q => ⟨q.1, h _ _ q.2⟩) q⟩
def wLst (t : WA) : WE := ⟨fun ρ M Q => t.f ρ M fun ds M1 => ds.length ≤ sizeLine ∧ ∀ p, M1 p = none → Q (.ref p) (mupd M1 p (.lst ds)),
  fun ρ M Q Q' h q => t.mono _ _ _ _ (fun _ _ q => ⟨q.1, fun p hp => h _ _ (q.2 p hp)⟩) q⟩
/-- a value (True or False) as a test -/
def wtB (a : WE) : WT := ⟨fun ρ M Q => a.f ρ M fun d M1 => ∃ b, d = .bl b ∧ Q b M1, fun ρ M Q Q' h q => a.mono _ _ _ _ (fun _ _ ⟨b, e, q⟩ => ⟨b, e, h _ _ q⟩) q⟩
def wtNot (a : WT) : WT := ⟨fun ρ M Q => a.f ρ M fun b M1 => Q (!b) M1, fun ρ M Q Q' h q => a.mono _ _ _ _ (fun _ _ q => h _ _ q) q⟩
def wtAnd (a b : WT) : WT := ⟨fun ρ M Q => a.f ρ M fun c M1 => (c = true → b.f ρ M1 Q) ∧ (c = false → Q false M1),
  fun ρ M Q Q' h q => a.mono _ _ _ _ (fun _ _ q => ⟨fun e => b.mono _ _ _ _ h (q.1 e), fun e => h _ _ (q.2 e)⟩) q⟩
def wtOr (a b : WT) : WT := ⟨fun ρ M Q => a.f ρ M fun c M1 => (c = true → Q true M1) ∧ (c = false → b.f ρ M1 Q),
  fun ρ M Q Q' h q => a.mono _ _ _ _ (fun _ _ q => ⟨fun e => h _ _ (q.1 e), fun e => b.mono _ _ _ _ h (q.2 e)⟩) q⟩
def wAnd (a b : WE) : WE := ⟨fun ρ M Q => a.f ρ M fun d M1 => ∃ c, d = .bl c ∧ (c = true → b.f ρ M1 Q) ∧ (c = false → Q (.bl false) M1),
  fun ρ M Q Q' h q => a.mono _ _ _ _ (fun _ _ ⟨c, e, q⟩ => ⟨c, e, fun e => b.mono _ _ _ _ h (q.1 e), fun e => h _ _ (q.2 e)⟩) q⟩
def wOr (a b : WE) : WE := ⟨fun ρ M Q => a.f ρ M fun d M1 => ∃ c, d = .bl c ∧ (c = true → Q (.bl true) M1) ∧ (c = false → b.f ρ M1 Q),
  fun ρ M Q Q' h q => a.mono _ _ _ _ (fun _ _ ⟨c, e, q⟩ => ⟨c, e, fun e => h _ _ (q.1 e), fun e => b.mono _ _ _ _ h (q.2 e)⟩) q⟩
def wNot (a : WE) : WE := ⟨fun ρ M Q => a.f ρ M fun d M1 => ∃ c, d = .bl c ∧ Q (.bl (!c)) M1, fun ρ M Q Q' h q => a.mono _ _ _ _ (fun _ _ ⟨c, e, q⟩ => ⟨c, e, h _ _ q⟩) q⟩
def wIf (t : WT) (a b : WE) : WE := ⟨fun ρ M Q => t.f ρ M fun c M1 => (c = true → a.f ρ M1 Q) ∧ (c = false → b.f ρ M1 Q),
  fun ρ M Q Q' h q => t.mono _ _ _ _ (fun _ _ q => ⟨fun e => a.mono _ _ _ _ h (q.1 e), fun e => b.mono _ _ _ _ h (q.2 e)⟩) q⟩
def wChain (r r' : W2) (a b c : WE) : WE := ⟨fun ρ M Q => a.f ρ M fun x M1 => b.f ρ M1 fun y M2 => r.f x y M2 fun z M3 => ∃ k, z = .bl k ∧ (k = true → c.f ρ M3 fun u M4 => r'.f y u M4 Q) ∧ (k = false → Q (.bl false) M3),
  fun ρ M Q Q' h q => a.mono _ _ _ _ (fun _ _ q => b.mono _ _ _ _ (fun _ _ q => r.mono _ _ _ _ _ (fun _ _ ⟨k, e, q⟩ => ⟨k, e, fun e => c.mono _ _ _ _ (fun _ _ q => r'.mono _ _ _ _ _ h q) (q.1 e), fun e => h _ _ (q.2 e)⟩) q) q) q⟩

/-! ### their rules -/
section
variable {X : Cx} {a b c : Expr} {es : List Expr} {wa wb wc : WE} {ta tb : WT} {t : WA} {pos : Pos}
theorem de_var {i : Nat} {x : Str} (hN : X.N[i]? = some x) (hv : Vis X.env.scope x) (hd : (x == ("__debug__" : Str)) = false := by decide) (hcd : (x == ("__classdict__" : Str)) = false := by decide) : DE X (.Name x pos) (wVar i) := by
  refine ⟨PE.imp (pe_var hN hv hd hcd) fun σ H Q ⟨ρ, M, Q', rs, rm, ⟨d, e, q⟩, po⟩ => ?_⟩
  obtain ⟨v, h1, h2⟩ := rs.2 i d e
  exact ⟨v, h1, po.here rm h2 q⟩
theorem dv (i : Nat) {x : Str} (hN : X.N[i]? = some x := by rfl) (hv : Vis X.env.scope x := by first | exact Or.inl rfl | exact Or.inr (Or.inl rfl) | exact Or.inr (Or.inr rfl)) (hd : (x == ("__debug__" : Str)) = false := by decide)
    (hcd : (x == ("__classdict__" : Str)) = false := by decide) : DE X (.Name x pos) (wVar i) := de_var hN hv hd hcd
theorem de_c {d : D} {v : V} {e : Expr} (h : PE X e (tC v)) (r : ∀ H, RelD X.K H d v) : DE X e (wC d) :=
  ⟨PE.imp h fun σ H Q ⟨ρ, M, Q', rs, rm, q, po⟩ => po.here rm (r H) q⟩
theorem de_int {i j} : DE X (.Constant (.int i) j pos) (wC (.int i)) := de_c pe_int fun _ => .int i
theorem de_bl {i j} : DE X (.Constant (.bool i) j pos) (wC (.bl i)) := de_c pe_bl fun _ => .bl i
theorem de_non {j} : DE X (.Constant .none j pos) (wC .non) := de_c pe_non fun _ => .non
theorem de_str {x j} : DE X (.Constant (.str x) j pos) (wC (.str x)) := de_c pe_str fun _ => .str x
theorem de_glob {x : Str} {d : D} {v : V} {u : Value} (hg : Gl X x) (hm : X.mg x = some u) (r : RelV v u) (h : ∀ H, RelD X.K H d v) (hd : (x == ("__debug__" : Str)) = false := by decide) : DE X (.Name x pos) (wC d) := de_c (pe_glob hg hm r hd) h
theorem de_ty {x : Str} {n : String} (hg : Gl X x) (hm : X.mg x = none) (hv : bootBuiltins x = some (.type n)) (hn : x ≠ "__name__" := by decide) (hd : (x == ("__debug__" : Str)) = false := by decide) : DE X (.Name x pos) (wC (.ty n)) :=
  de_c (pe_bltn (v := .ty n) hg hm hv rfl hn hd) fun _ => .ty n
theorem de_op {op : Operator} {r : W2} (ho : D2 X (binaryOp op) r) (ha : DE X a wa) (hb : DE X b wb) : DE X (.BinOp a op b pos) (wOp r wa wb) :=
  ⟨PE.imp (pe_op ho.op ha.pe hb.pe) fun σ H Q ⟨ρ, M, Q', rs, rm, q, po⟩ => ⟨ρ, M, _, rs, rm, q, fun x d H1 M1 s1 m1 r1 q1 => ⟨ρ, M1, _, rs.keep (s1.keep rm), m1, q1, fun y e H2 M2 s2 m2 r2 q2 =>
    ⟨d, e, M2, Q', r1.keep (s2.keep m1), r2, m2, q2, (po.after s1).after s2⟩⟩⟩⟩
theorem de_un {op : UnaryOp} {r : W1} (ho : D1 X (unaryOp op) r) (ha : DE X a wa) : DE X (.UnaryOp op a pos) (wUn r wa) :=
  ⟨PE.imp (pe_un ho.op ha.pe) fun σ H Q ⟨ρ, M, Q', rs, rm, q, po⟩ => ⟨ρ, M, _, rs, rm, q, fun x d H1 M1 s1 m1 r1 q1 => ⟨d, M1, Q', r1, m1, q1, po.after s1⟩⟩⟩
theorem de_cmp {op : CmpOp} {r : W2} (ho : D2 X (compareOp op) r) (ha : DE X a wa) (hb : DE X b wb) (hm : behindInMarks op b = false) : DE X (.Compare a [op] [b] pos) (wOp r wa wb) :=
  ⟨PE.imp (pe_cmpR ho.op ha.pe hb.pe hm) fun σ H Q ⟨ρ, M, Q', rs, rm, q, po⟩ => ⟨ρ, M, _, rs, rm, q, fun x d H1 M1 s1 m1 r1 q1 => ⟨ρ, M1, _, rs.keep (s1.keep rm), m1, q1, fun y e H2 M2 s2 m2 r2 q2 =>
    ⟨d, e, M2, Q', r1.keep (s2.keep m1), r2, m2, q2, (po.after s1).after s2⟩⟩⟩⟩
/-- a bool's V -/
theorem relD_bl {K : PySem.W.Frag} {H : Hp} {k : Bool} {v : V} (r : RelD K H (.bl k) v) : v = .bl k := by cases r; rfl
theorem dt_cmp {op : CmpOp} {r : W2} (ho : D2 X (compareOp op) r) (ha : DE X a wa) (hb : DE X b wb) (hm : behindInMarks op b = false) : DT X (.Compare a [op] [b] pos) (wtB (wOp r wa wb)) :=
  ⟨PT.imp (pt_cmpR ho.op ha.pe hb.pe hm) fun σ H Q ⟨ρ, M, Q', rs, rm, q, po⟩ => ⟨ρ, M, _, rs, rm, q, fun x d H1 M1 s1 m1 r1 q1 => ⟨ρ, M1, _, rs.keep (s1.keep rm), m1, q1, fun y e H2 M2 s2 m2 r2 q2 =>
    ⟨d, e, M2, _, r1.keep (s2.keep m1), r2, m2, q2, fun v d' H' M' st m' r' ⟨k, ek, q'⟩ => by
      subst ek
      exact ⟨k, relD_bl r', po k H' M' ((s1.trans s2).trans st) m' q'⟩⟩⟩⟩⟩
/-- a value that is True or False, as a test -/
theorem dt_val (h : DE X a wa) (he : ∀ whole, isTrue a X.env whole = (do let v ← whole; standAt a.pos; holding [v] (truthy v)) := by intro _; rfl) : DT X a (wtB wa) :=
  ⟨PT.imp (pt_val h.pe he) fun σ H Q ⟨ρ, M, Q', rs, rm, q, po⟩ => ⟨ρ, M, _, rs, rm, q, fun v d H' M' st m' r' ⟨k, ek, q'⟩ => by
      subst ek
      exact ⟨k, relD_bl r', po k H' M' st m' q'⟩⟩⟩
theorem dt_not (h : DT X a ta) : DT X (.UnaryOp .Not a pos) (wtNot ta) :=
  ⟨PT.imp (pt_not h.pt) fun σ H Q ⟨ρ, M, Q', rs, rm, q, po⟩ => ⟨ρ, M, _, rs, rm, q, fun b H' M' st m' q' => po _ H' M' st m' q'⟩⟩
theorem dw_and1 (h : DT X a ta) : DW X (.BoolOp .And [a] pos) ta := ⟨pw_and1 h.pt⟩
theorem dw_or1 (h : DT X a ta) : DW X (.BoolOp .Or [a] pos) ta := ⟨pw_or1 h.pt⟩
theorem dw_and {rest : List Expr} (ha : DT X a ta) (hb : DW X (.BoolOp .And (b :: rest) pos) tb) : DW X (.BoolOp .And (a :: b :: rest) pos) (wtAnd ta tb) :=
  ⟨PW.imp (pw_and ha.pt hb.pw) fun σ H Q ⟨ρ, M, Q', rs, rm, q, po⟩ => ⟨ρ, M, _, rs, rm, q, fun k H1 M1 s1 m1 q1 => by
    cases k with
    | true => exact iteT ⟨ρ, M1, Q', rs.keep (s1.keep rm), m1, q1.1 rfl, fun b H' M' st m' q' => po b H' M' (s1.trans st) m' q'⟩
    | false => exact iteF (po false H1 M1 s1 m1 (q1.2 rfl))⟩⟩
theorem dw_or {rest : List Expr} (ha : DT X a ta) (hb : DW X (.BoolOp .Or (b :: rest) pos) tb) : DW X (.BoolOp .Or (a :: b :: rest) pos) (wtOr ta tb) :=
  ⟨PW.imp (pw_or ha.pt hb.pw) fun σ H Q ⟨ρ, M, Q', rs, rm, q, po⟩ => ⟨ρ, M, _, rs, rm, q, fun k H1 M1 s1 m1 q1 => by
    cases k with
    | true => exact iteT (po true H1 M1 s1 m1 (q1.1 rfl))
    | false => exact iteF ⟨ρ, M1, Q', rs.keep (s1.keep rm), m1, q1.2 rfl, fun b H' M' st m' q' => po b H' M' (s1.trans st) m' q'⟩⟩⟩
theorem de_one {op} (h : DE X a wa) : DE X (.BoolOp op [a] pos) wa := ⟨pe_one h.pe⟩
theorem de_and {rest : List Expr} (ha : DE X a wa) (hb : DE X (.BoolOp .And (b :: rest) pos) wb) : DE X (.BoolOp .And (a :: b :: rest) pos) (wAnd wa wb) :=
  ⟨PE.imp (pe_and ha.pe hb.pe) fun σ H Q ⟨ρ, M, Q', rs, rm, q, po⟩ => ⟨ρ, M, _, rs, rm, q, fun x d H1 M1 s1 m1 r1 ⟨k, ek, q1⟩ => by
    subst ek
    refine ⟨k, relD_bl r1, ?_⟩
    cases k with
    | true => exact iteT ⟨ρ, M1, Q', rs.keep (s1.keep rm), m1, q1.1 rfl, po.after s1⟩
    | false => exact iteF (po (.bl false) (.bl false) H1 M1 s1 m1 (.bl false) (q1.2 rfl))⟩⟩
theorem de_or {rest : List Expr} (ha : DE X a wa) (hb : DE X (.BoolOp .Or (b :: rest) pos) wb) : DE X (.BoolOp .Or (a :: b :: rest) pos) (wOr wa wb) :=
  ⟨PE.imp (pe_or ha.pe hb.pe) fun σ H Q ⟨ρ, M, Q', rs, rm, q, po⟩ => ⟨ρ, M, _, rs, rm, q, fun x d H1 M1 s1 m1 r1 ⟨k, ek, q1⟩ => by
    subst ek
    refine ⟨k, relD_bl r1, ?_⟩
    cases k with
    | true => exact iteT (po (.bl true) (.bl true) H1 M1 s1 m1 (.bl true) (q1.1 rfl))
    | false => exact iteF ⟨ρ, M1, Q', rs.keep (s1.keep rm), m1, q1.2 rfl, po.after s1⟩⟩⟩
theorem de_not (ha : DE X a wa) : DE X (.UnaryOp .Not a pos) (wNot wa) :=
  ⟨PE.imp (pe_not ha.pe) fun σ H Q ⟨ρ, M, Q', rs, rm, q, po⟩ => ⟨ρ, M, _, rs, rm, q, fun x d H1 M1 s1 m1 r1 ⟨k, ek, q1⟩ => by
    subst ek
    exact ⟨k, relD_bl r1, po _ _ H1 M1 s1 m1 (.bl _) q1⟩⟩⟩
theorem de_if (hc : DT X c ta) (ha : DE X a wa) (hb : DE X b wb) : DE X (.IfExp c a b pos) (wIf ta wa wb) :=
  ⟨PE.imp (pe_ifExp hc.pt ha.pe hb.pe) fun σ H Q ⟨ρ, M, Q', rs, rm, q, po⟩ => ⟨ρ, M, _, rs, rm, q, fun k H1 M1 s1 m1 q1 => by
    cases k with
    | true => exact iteT ⟨ρ, M1, Q', rs.keep (s1.keep rm), m1, q1.1 rfl, po.after s1⟩
    | false => exact iteF ⟨ρ, M1, Q', rs.keep (s1.keep rm), m1, q1.2 rfl, po.after s1⟩⟩⟩
theorem de_chain {op op' : CmpOp} {r r' : W2} (ho : D2 X (compareOp op) r) (ho' : D2 X (compareOp op') r') (ha : DE X a wa) (hb : DE X b wb) (hc : DE X c wc)
    (hm : lastMarks [op, op'] [b, c] = false := by with_unfolding_all rfl) : DE X (.Compare a [op, op'] [b, c] pos) (wChain r r' wa wb wc) :=
  ⟨PE.imp (pe_chain ho.op ho'.op ha.pe hb.pe hc.pe hm) fun σ H Q ⟨ρ, M, Q', rs, rm, q, po⟩ => ⟨ρ, M, _, rs, rm, q, fun x d H1 M1 s1 m1 r1 q1 => ⟨ρ, M1, _, rs.keep (s1.keep rm), m1, q1, fun y e H2 M2 s2 m2 r2 q2 =>
    ⟨d, e, M2, _, r1.keep (s2.keep m1), r2, m2, q2, fun z d' H3 M3 s3 m3 r3 ⟨k, ek, q3⟩ => by
      subst ek
      refine ⟨k, relD_bl r3, ?_⟩
      cases k with
      | true => exact iteT ⟨ρ, M3, _, rs.keep ((s1.trans (s2.trans s3)).keep rm), m3, q3.1 rfl, fun u e' H4 M4 s4 m4 r4 q4 => ⟨e, e', M4, Q', r2.keep ((s3.trans s4).keep m2), r4, m4, q4, po.after (s1.trans (s2.trans (s3.trans s4)))⟩⟩
      | false => exact iteF (po _ _ H3 M3 (s1.trans (s2.trans s3)) m3 (.bl false) (q3.2 rfl))⟩⟩⟩⟩
theorem dt_chain {op op' : CmpOp} {r r' : W2} (ho : D2 X (compareOp op) r) (ho' : D2 X (compareOp op') r') (ha : DE X a wa) (hb : DE X b wb) (hc : DE X c wc)
    (hm : lastMarks [op, op'] [b, c] = false := by with_unfolding_all rfl) : DT X (.Compare a [op, op'] [b, c] pos) (wtB (wChain r r' wa wb wc)) :=
  ⟨PT.imp (pt_chain ho.op ho'.op ha.pe hb.pe hc.pe hm) fun σ H Q ⟨ρ, M, Q', rs, rm, q, po⟩ => ⟨ρ, M, _, rs, rm, q, fun x d H1 M1 s1 m1 r1 q1 => ⟨ρ, M1, _, rs.keep (s1.keep rm), m1, q1, fun y e H2 M2 s2 m2 r2 q2 =>
    ⟨d, e, M2, _, r1.keep (s2.keep m1), r2, m2, q2, fun z d' H3 M3 s3 m3 r3 ⟨k, ek, q3⟩ => by
      subst ek
      refine ⟨k, relD_bl r3, ?_⟩
      cases k with
      | true => exact iteT ⟨ρ, M3, _, rs.keep ((s1.trans (s2.trans s3)).keep rm), m3, q3.1 rfl, fun u e' H4 M4 s4 m4 r4 q4 => ⟨e, e', M4, _, r2.keep ((s3.trans s4).keep m2), r4, m4, q4, fun v d5 H5 M5 s5 m5 r5 ⟨k5, e5, q5⟩ => by
          subst e5
          exact ⟨k5, relD_bl r5, po k5 H5 M5 (s1.trans (s2.trans (s3.trans (s4.trans s5)))) m5 q5⟩⟩⟩
      | false =>
        refine iteF ?_
        obtain ⟨k5, e5, q5⟩ := q3.2 rfl
        cases e5
        exact ⟨false, rfl, po false H3 M3 (s1.trans (s2.trans s3)) m3 q5⟩⟩⟩⟩⟩
theorem da_nil : DA X [] aNil := ⟨PA.imp pa_nil fun σ H Q ⟨ρ, M, Q', rs, rm, q, po⟩ => po [] [] H M Step.refl rm .nil q⟩
theorem da_cons (ha : DE X a wa) (hr : DA X es t) (hs : starEach (a :: es) X.env = (false, eval a X.env) :: starEach es X.env := by rfl) : DA X (a :: es) (aCons wa t) :=
  ⟨PA.imp (pa_cons ha.pe hr.pa hs) fun σ H Q ⟨ρ, M, Q', rs, rm, q, po⟩ => ⟨ρ, M, _, rs, rm, q, fun x d H1 M1 s1 m1 r1 q1 => ⟨ρ, M1, _, rs.keep (s1.keep rm), m1, q1, fun vs ds H2 M2 s2 m2 r2 q2 =>
    po (x :: vs) (d :: ds) H2 M2 (s1.trans s2) m2 (.cons (r1.keep (s2.keep m1)) r2) q2⟩⟩⟩
theorem de_tup {k : Nat} (h : DA X es t) : DE X (.Tuple es k pos) (wTup t) :=
  ⟨PE.imp (pe_tup h.pa) fun σ H Q ⟨ρ, M, Q', rs, rm, q, po⟩ => ⟨ρ, M, _, rs, rm, q, fun vs ds H1 M1 s1 m1 r1 ⟨z, q1⟩ => ⟨by rw [← r1.length]; exact z, fun p hp =>
    po (.ref p) (.tup ds) _ M1 (s1.trans (Step.beside hp)) (m1.beside hp) (.tup (.inl upd_same) (r1.keep (keep_new hp))) q1⟩⟩⟩
theorem de_lst (h : DA X es t) : DE X (.List es pos) (wLst t) :=
  ⟨PE.imp (pe_lst h.pa) fun σ H Q ⟨ρ, M, Q', rs, rm, q, po⟩ => ⟨ρ, M, _, rs, rm, q, fun vs ds H1 M1 s1 m1 r1 ⟨z, q1⟩ => ⟨by rw [← r1.length]; exact z, fun p hp =>
    po (.ref p) (.ref p) _ _ (s1.trans (Step.new m1 hp (.lst ds))) (m1.laid hp (keep_new hp) ⟨vs, upd_same, r1.keep (keep_new hp)⟩) (.ref p) (q1 p (m1.free hp))⟩⟩⟩
theorem de_callB {x : Str} {id : String} {p : Pos} {r : WN} (hc : DN X (.builtin id) r) (hg : Gl X x) (hm : X.mg x = none) (hv : bootBuiltins x = some (.builtin id)) (ha : DA X (a :: es) t) (hn : x ≠ "__name__" := by decide) (hdb : (x == ("__debug__" : Str)) = false := by decide)
    (he : starEach (a :: es) X.env = (false, eval a X.env) :: starEach es X.env := by rfl) (hpl : (backTo pos (starEach es X.env)).any (·.1) = false := by rfl) : DE X (.Call (.Name x p) (a :: es) [] pos) (wCB r t) :=
  ⟨PE.imp (pe_callB hc.op hg hm hv ha.pa hn hdb he hpl) fun σ H Q ⟨ρ, M, Q', rs, rm, q, po⟩ => ⟨ρ, M, _, rs, rm, q, fun vs ds H1 M1 s1 m1 r1 q1 => ⟨ds, M1, Q', r1, m1, q1, po.after s1⟩⟩⟩
theorem de_callTy {x : Str} {T : String} {p : Pos} {r : WN} (hc : DN X (.type T) r) (hg : Gl X x) (hm : X.mg x = none) (hv : bootBuiltins x = some (.type T)) (ha : DA X (a :: es) t) (hn : x ≠ "__name__" := by decide) (hdb : (x == ("__debug__" : Str)) = false := by decide)
    (he : starEach (a :: es) X.env = (false, eval a X.env) :: starEach es X.env := by rfl) (hpl : (backTo pos (starEach es X.env)).any (·.1) = false := by rfl) : DE X (.Call (.Name x p) (a :: es) [] pos) (wCB r t) :=
  ⟨PE.imp (pe_callTy hc.op hg hm hv ha.pa hn hdb he hpl) fun σ H Q ⟨ρ, M, Q', rs, rm, q, po⟩ => ⟨ρ, M, _, rs, rm, q, fun vs ds H1 M1 s1 m1 r1 q1 => ⟨ds, M1, Q', r1, m1, q1, po.after s1⟩⟩⟩
end
end MP

namespace MP
open PySem PySem.Spec PyProof.Rows L2

/-! ### data -/
mutual
def D.py : D → PyData
  | .non => .none
  | .bl b => .bool b
  | .int i => .int i
  | .str x => .str x
  | .tup xs => .tuple (D.pys xs)
  | .ref _ => .dict []
  | .ty _ => .dict []
  | .fl xs => .list (D.pys xs)
def D.pys : List D → List PyData
  | [] => []
  | x :: xs => D.py x :: D.pys xs
end
theorem pys_map : ∀ xs : List D, D.pys xs = xs.map D.py
  | [] => rfl
  | x :: xs => by rw [D.pys, pys_map xs]; rfl
/-- no object within -/
abbrev D.pl (d : D) : Prop := d.py.plain = true
abbrev D.pls (ds : List D) : Prop := PyData.plainAll (D.pys ds) = true
abbrev D.dep (d : D) : Nat := d.py.depth
abbrev D.deps (ds : List D) : Nat := PyData.depthAll (D.pys ds)
/-- == and < of data -/
abbrev eqD (d e : D) : Bool := PyData.eqv d.py e.py
abbrev ltD (d e : D) : Bool := PySem.W.dataLt d.py e.py

section
variable {K : PySem.W.Frag} {H : Hp}
mutual
theorem relD_dp : ∀ (d : D) (v : V), RelD K H d v → d.pl → Dp K H v d.py
  | .non, _, .non, _ => .non
  | .bl b, _, .bl _, _ => .bl b
  | .int i, _, .int _, _ => .int i
  | .str x, _, .str _, _ => .str x
  | .tup ds, _, .tup h r, p => by
    rw [D.py]
    exact .tup h.sq (relDs_dp ds _ r (by rw [D.pl, D.py, PyData.plain] at p; exact p))
  | .fl ds, _, .fl h r, p => by
    rw [D.py]
    exact .lst h.sq (relDs_dp ds _ r (by rw [D.pl, D.py, PyData.plain] at p; exact p))
  | .ref a, _, _, p => by simp [D.pl, D.py, PyData.plain] at p
  | .ty a, _, _, p => by simp [D.pl, D.py, PyData.plain] at p
theorem relDs_dp : ∀ (ds : List D) (vs : List V), RelDs K H ds vs → D.pls ds → DpAll K H vs (D.pys ds)
  | [], _, .nil, _ => by rw [D.pys]; exact .nil
  | d :: ds, _, .cons r t, p => by
    have p' : d.py.plain = true ∧ PyData.plainAll (D.pys ds) = true := by
      rw [D.pls, D.pys, PyData.plainAll, Bool.and_eq_true] at p; exact p
    rw [D.pys]
    exact .cons (relD_dp d _ r p'.1) (relDs_dp ds _ t p'.2)
end
end
theorem Inv.rd {X : Cx} {pins : List (Addr × Obj)} {σ : L2.St} {H : Hp} {s : Shared} (I : Inv X pins σ H s) {d : D} {v : V} {u : Value} (r : RelD X.K H d v) (p : d.pl) (rv : RelV v u) : ∃ as, Reads s.heap u d.py as :=
  Dp.reads I d.py v u (relD_dp d v r p) rv
theorem Inv.rds {X : Cx} {pins : List (Addr × Obj)} {σ : L2.St} {H : Hp} {s : Shared} (I : Inv X pins σ H s) {ds : List D} {vs : List V} {us : List Value} (r : RelDs X.K H ds vs) (p : D.pls ds) (rv : Vals vs us) : ∃ as, ReadsAll s.heap us (D.pys ds) as :=
  Dp.readsAll I (D.pys ds) vs us (relDs_dp ds vs r p) rv
/-- a tracked list as data -/
theorem Inv.rdl {X : Cx} {pins : List (Addr × Obj)} {σ : L2.St} {H : Hp} {s : Shared} (I : Inv X pins σ H s) {ds : List D} {a : Addr} {vs : List V} (h : H a = some (.lst vs)) (r : RelDs X.K H ds vs) (p : D.pls ds) : ∃ as, Reads s.heap (.ref a) (.list (D.pys ds)) as :=
  Dp.reads I (.list (D.pys ds)) (.ref a) (.ref a) (.lst (.inl (.inl h)) (relDs_dp ds vs r p)) rfl

/-! ### operators -/
/-- by cases: where none of the arms is taken nothing is known -/
def rAdd : W2 := ⟨fun d e M Q => match d, e with
    | .int i, .int j => Q (.int (i + j)) M
    | .str x, .str y => x.length + y.length ≤ sizeLine ∧ Q (.str (x ++ y)) M
    | .tup xs, .tup ys => xs.length + ys.length ≤ sizeLine ∧ Q (.tup (xs ++ ys)) M
    | .ref a, .ref b => ∃ xs ys, M a = some (.lst xs) ∧ M b = some (.lst ys) ∧ xs.length + ys.length ≤ sizeLine ∧ ∀ p, M p = none → Q (.ref p) (mupd M p (.lst (xs ++ ys)))
    | _, _ => False, fun d e M Q Q' h q => by
  cases d <;> cases e <;> first | exact q.elim | exact h _ _ q | exact ⟨q.1, h _ _ q.2⟩ | (obtain ⟨xs, ys, q1, q2, q3, q4⟩ := q; exact ⟨xs, ys, q1, q2, q3, fun p hp => h _ _ (q4 p hp)⟩)⟩
def rI2 (C : Int → Int → Prop) (g : Int → Int → D) : W2 := ⟨fun d e M Q => match d, e with
    | .int i, .int j => C i j ∧ Q (g i j) M
    | _, _ => False, fun d e M Q Q' h q => by
  cases d <;> cases e <;> first | exact q.elim | exact ⟨q.1, h _ _ q.2⟩⟩
def rI20 (g : Int → Int → D) : W2 := ⟨fun d e M Q => match d, e with
    | .int i, .int j => Q (g i j) M
    | _, _ => False, fun d e M Q Q' h q => by
  cases d <;> cases e <;> first | exact q.elim | exact h _ _ q⟩
abbrev rSub : W2 := rI20 fun i j => .int (i - j)
def rMul : W2 := ⟨fun d e M Q => match d, e with
    | .int i, .int j => CMul i j ∧ Q (.int (i * j)) M
    | .ref a, .int k => ∃ xs, M a = some (.lst xs) ∧ -(2 ^ 63) ≤ k ∧ k < 2 ^ 63 ∧ xs.length * k.toNat ≤ sizeLine ∧ ∀ p, M p = none → Q (.ref p) (mupd M p (.lst (List.replicate k.toNat xs).flatten))
    | _, _ => False, fun d e M Q Q' h q => by
  cases d <;> cases e <;> first | exact q.elim | exact ⟨q.1, h _ _ q.2⟩ | (obtain ⟨xs, q1, q2, q3, q4, q5⟩ := q; exact ⟨xs, q1, q2, q3, q4, fun p hp => h _ _ (q5 p hp)⟩)⟩
abbrev rFdiv : W2 := rI2 CDiv fun i j => .int (i / j)
abbrev rMod : W2 := rI2 (fun _ j => 0 < j) fun i j => .int (i % j)
abbrev rPow : W2 := rI2 CPow fun i j => .int (i ^ j.toNat)
def r1I (g : Int → D) : W1 := ⟨fun d M Q => match d with
    | .int i => Q (g i) M
    | _ => False, fun d M Q Q' h q => by cases d <;> first | exact q.elim | exact h _ _ q⟩
abbrev rNeg : W1 := r1I fun i => .int (-i)
section
variable {X : Cx}
theorem d_add : D2 X (binaryOp .Add) rAdd := ⟨by
  intro pins s σ H x y v u Q I rx ry ⟨d, e, M, Q', rd, re, rm, q, po⟩
  cases rd <;> cases re <;> first
    | exact False.elim q
    | exact op_add pins s σ H _ _ v u Q I rx ry ⟨_, _, rfl, rfl, po.here rm (.int _) q⟩
    | exact op_add_str pins s σ H _ _ v u Q I rx ry ⟨_, _, rfl, rfl, q.1, po.here rm (.str _) q.2⟩
    | skip
  · rename_i a xs vs hx rs b ys ws hy rt
    refine op_catA pins s σ H _ _ v u Q I rx ry ⟨_, _, vs, ws, rfl, rfl, hx.sq, hy.sq, by rw [← rs.length, ← rt.length]; exact q.1, fun e => ?_, fun e1 e2 => ?_, fun _ _ p hp => ?_⟩
    · subst e; rw [rs.nil_iff.mp rfl] at q; exact po.here rm (.tup hy rt) q.2
    · subst e2; rw [rt.nil_iff.mp rfl] at q; exact po.here rm (.tup hx rs) (by have q2 : Q' (.tup (xs ++ [])) M := q.2; rw [List.append_nil] at q2; exact q2)
    · exact po _ _ _ M (Step.beside hp) (rm.beside hp) (.tup (.inl upd_same) ((rs.append rt).keep (keep_new hp))) q.2
  · obtain ⟨xs, ys, ha, hb, hz, q⟩ := q
    obtain ⟨vs, h1, r1⟩ := rm _ _ ha
    obtain ⟨ws, h2, r2⟩ := rm _ _ hb
    exact op_cat pins s σ H _ _ v u Q I rx ry ⟨_, _, vs, ws, rfl, rfl, h1, h2, by rw [← r1.length, ← r2.length]; exact hz, fun p hp =>
      po _ _ _ _ (Step.new rm hp (.lst (xs ++ ys))) (rm.laid hp (keep_new hp) ⟨vs ++ ws, upd_same, (r1.append r2).keep (keep_new hp)⟩) (.ref p) (q p (rm.free hp))⟩⟩
theorem d_i2 {f : Value → Value → Sem Value} {C : Int → Int → Prop} {g : Int → Int → V} {g' : Int → Int → D} (o : OpR X f (rI C g)) (r : ∀ H i j, RelD X.K H (g' i j) (g i j)) : D2 X f (rI2 C g') := ⟨by
  intro pins s σ H x y v u Q I rx ry ⟨d, e, M, Q', rd, re, rm, q, po⟩
  cases rd <;> cases re <;> first
    | exact False.elim q
    | exact o pins s σ H _ _ v u Q I rx ry ⟨_, _, rfl, rfl, q.1, po.here rm (r _ _ _) q.2⟩⟩
theorem d_i20 {f : Value → Value → Sem Value} {g : Int → Int → V} {g' : Int → Int → D} (o : OpR X f (rI0 g)) (r : ∀ H i j, RelD X.K H (g' i j) (g i j)) : D2 X f (rI20 g') := ⟨by
  intro pins s σ H x y v u Q I rx ry ⟨d, e, M, Q', rd, re, rm, q, po⟩
  cases rd <;> cases re <;> first
    | exact False.elim q
    | exact o pins s σ H _ _ v u Q I rx ry ⟨_, _, rfl, rfl, po.here rm (r _ _ _) q⟩⟩
theorem d_sub : D2 X (binaryOp .Sub) rSub := d_i20 op_sub fun _ _ _ => .int _
theorem d_fdiv : D2 X (binaryOp .FloorDiv) rFdiv := d_i2 op_fdiv fun _ _ _ => .int _
theorem d_mod : D2 X (binaryOp .Mod) rMod := d_i2 op_mod fun _ _ _ => .int _
theorem d_pow : D2 X (binaryOp .Pow) rPow := d_i2 op_pow fun _ _ _ => .int _
theorem d_mul : D2 X (binaryOp .Mult) rMul := ⟨by
  intro pins s σ H x y v u Q I rx ry ⟨d, e, M, Q', rd, re, rm, q, po⟩
  cases rd <;> cases re <;> first
    | exact False.elim q
    | exact op_mul pins s σ H _ _ v u Q I rx ry ⟨_, _, rfl, rfl, q.1, po.here rm (.int _) q.2⟩
    | skip
  obtain ⟨xs, ha, h1, h2, hz, q⟩ := q
  obtain ⟨vs, hH, r1⟩ := rm _ _ ha
  exact op_rep pins s σ H _ _ v u Q I rx ry ⟨_, _, vs, rfl, rfl, hH, h1, h2, by rw [← r1.length]; exact hz, fun p hp =>
      po _ _ _ _ (Step.new rm hp (.lst (List.replicate _ xs).flatten)) (rm.laid hp (keep_new hp) ⟨_, upd_same, (r1.rep _).keep (keep_new hp)⟩) (.ref p) (q p (rm.free hp))⟩⟩
theorem d_neg : D1 X (unaryOp .USub) rNeg := ⟨by
  intro pins s σ H x v Q I rx ⟨d, M, Q', rd, rm, q, po⟩
  cases rd <;> first
    | exact False.elim q
    | exact un_neg pins s σ H _ v Q I rx ⟨_, rfl, po.here rm (.int _) q⟩⟩
end

/-! ### comparisons -/
def rEqn (n : Bool) : W2 := ⟨fun d e M Q => match d, e with
    | .int i, .int j => Q (.bl (xor n (decide (i = j)))) M
    | .str i, .str j => Q (.bl (xor n (decide (i = j)))) M
    | .bl i, .bl j => Q (.bl (xor n (i == j))) M
    | .ref a, .ref b => ∃ xs ys, M a = some (.lst xs) ∧ M b = some (.lst ys) ∧ D.pls xs ∧ D.pls ys ∧ min (D.deps xs) (D.deps ys) ≤ 60 ∧ Q (.bl (xor n (PyData.eqvAll (D.pys xs) (D.pys ys)))) M
    | d, e => d.pl ∧ e.pl ∧ min d.dep e.dep ≤ 60 ∧ Q (.bl (xor n (eqD d e))) M, fun d e M Q Q' h q => by
  cases d <;> cases e <;> first | exact h _ _ q | (obtain ⟨q1, q2, q3, q4⟩ := q; exact ⟨q1, q2, q3, h _ _ q4⟩) | (obtain ⟨xs, ys, q1, q2, q3, q4, q5, q6⟩ := q; exact ⟨xs, ys, q1, q2, q3, q4, q5, h _ _ q6⟩)⟩
abbrev rEq : W2 := rEqn false
abbrev rNe : W2 := rEqn true
theorem xor_f (b : Bool) : xor false b = b := by cases b <;> rfl
theorem xor_t (b : Bool) : xor true b = !b := by cases b <;> rfl
def rLt : W2 := ⟨fun d e M Q => match d, e with
    | .int i, .int j => Q (.bl (decide (i < j))) M
    | d, e => PySem.W.alike d.py e.py = true ∧ d.py ≠ .none ∧ min d.dep e.dep ≤ 60 ∧ d.pl ∧ e.pl ∧ Q (.bl (ltD d e)) M, fun d e M Q Q' h q => by
  cases d <;> cases e <;> first | exact h _ _ q | (obtain ⟨q1, q2, q3, q4, q5, q6⟩ := q; exact ⟨q1, q2, q3, q4, q5, h _ _ q6⟩)⟩
abbrev rLe : W2 := rI20 fun i j => .bl (decide (i ≤ j))
abbrev rGt : W2 := rI20 fun i j => .bl (decide (j < i))
abbrev rGe : W2 := rI20 fun i j => .bl (decide (j ≤ i))
def D.isNon : D → Bool
  | .non => true
  | _ => false
def rIsn (n : Bool) : W2 := ⟨fun d e M Q => match e with
    | .non => Q (.bl (xor n d.isNon)) M
    | .bl b => match d with
      | .bl a => Q (.bl (xor n (decide (a = b)))) M
      | _ => False
    | _ => False, fun d e M Q Q' h q => by
  cases e <;> first | exact h _ _ q | exact q.elim | (cases d <;> first | exact h _ _ q | exact q.elim)⟩
abbrev rIs : W2 := rIsn false
abbrev rIsNot : W2 := rIsn true
section
variable {X : Cx}
theorem fin_b {pins : List (Addr × Obj)} {σ : L2.St} {H : Hp} {s : Shared} {M : Mem} {Q' : D → Mem → Prop} {Q : VK} {k k' : Bool} (I : Inv X pins σ H s) (rm : RelM X.prog X.w X.K H M) (po : Post X.prog X.w X.K H M Q' Q) (q : Q' (.bl k) M) (e : k = k') : EP X pins σ Q (.bool k') s := by
  subst e
  exact ⟨.bl k, H, I, rfl, po.here rm (.bl k) q⟩
theorem d_eq (hu : X.A.units + 64 < cLine) : D2 X (compareOp .Eq) rEq := ⟨by
  intro pins s σ H x y v u Q I rx ry ⟨d, e, M, Q', rd, re, rm, q, po⟩
  have gen : d.pl → e.pl → min d.dep e.dep ≤ 60 → Q' (.bl (eqD d e)) M → wpAny (model X.prog X.w) X.A (compareOp .Eq v u) (EP X pins σ Q) X.xe s := fun p1 p2 h q => by
    obtain ⟨as, r1⟩ := Inv.rd I rd p1 rx
    obtain ⟨bs, r2⟩ := Inv.rd I re p2 ry
    exact PySem.SeqAt.eq_plain r1 r2 p1 p2 (by have : min d.py.depth e.py.depth ≤ 60 := h; omega) (fin_b I rm po q rfl)
  cases d <;> cases e <;> first
    | (obtain ⟨q1, q2, q3, q4⟩ := q; exact gen q1 q2 q3 (by rw [xor_f] at q4; exact q4))
    | (refine gen rfl rfl (by simp [D.dep, D.py, PyData.depth]) ?_; simpa [rEqn, eqD, D.py, PyData.eqv] using q)
    | (rename_i i j; refine gen rfl rfl (by simp [D.dep, D.py, PyData.depth]) ?_; have q2 : Q' (.bl (xor _ (i == j))) M := q; simp only [eqD, D.py, PyData.eqv]; first | (rw [xor_f] at q2; exact q2) | (rw [xor_t] at q2; exact q2))
    | skip
  cases rd; cases re
  obtain ⟨xs, ys, ha, hb, p1, p2, hz, q⟩ := q
  obtain ⟨vs, h1, r1⟩ := rm _ _ ha
  obtain ⟨ws, h2, r2⟩ := rm _ _ hb
  obtain ⟨as, g1⟩ := Inv.rdl I h1 r1 p1
  obtain ⟨bs, g2⟩ := Inv.rdl I h2 r2 p2
  cases rx; cases ry
  exact PySem.SeqAt.eq_plain g1 g2 (by rw [PyData.plain]; exact p1) (by rw [PyData.plain]; exact p2) (by rw [PyData.depth, PyData.depth]; have : min (PyData.depthAll (D.pys xs)) (PyData.depthAll (D.pys ys)) ≤ 60 := hz; omega) (fin_b I rm po q (by rw [xor_f, PyData.eqv]))⟩
theorem d_ne (hu : X.A.units + 64 < cLine) : D2 X (compareOp .NotEq) rNe := ⟨by
  intro pins s σ H x y v u Q I rx ry ⟨d, e, M, Q', rd, re, rm, q, po⟩
  have gen : d.pl → e.pl → min d.dep e.dep ≤ 60 → Q' (.bl (!eqD d e)) M → wpAny (model X.prog X.w) X.A (compareOp .NotEq v u) (EP X pins σ Q) X.xe s := fun p1 p2 h q => by
    obtain ⟨as, r1⟩ := Inv.rd I rd p1 rx
    obtain ⟨bs, r2⟩ := Inv.rd I re p2 ry
    exact PySem.SeqAt.ne_plain r1 r2 p1 p2 (by have : min d.py.depth e.py.depth ≤ 60 := h; omega) (fin_b I rm po q rfl)
  cases d <;> cases e <;> first
    | (obtain ⟨q1, q2, q3, q4⟩ := q; exact gen q1 q2 q3 (by rw [xor_t] at q4; exact q4))
    | (refine gen rfl rfl (by simp [D.dep, D.py, PyData.depth]) ?_; simpa [rEqn, eqD, D.py, PyData.eqv] using q)
    | (rename_i i j; refine gen rfl rfl (by simp [D.dep, D.py, PyData.depth]) ?_; have q2 : Q' (.bl (xor _ (i == j))) M := q; simp only [eqD, D.py, PyData.eqv]; first | (rw [xor_f] at q2; exact q2) | (rw [xor_t] at q2; exact q2))
    | skip
  cases rd; cases re
  obtain ⟨xs, ys, ha, hb, p1, p2, hz, q⟩ := q
  obtain ⟨vs, h1, r1⟩ := rm _ _ ha
  obtain ⟨ws, h2, r2⟩ := rm _ _ hb
  obtain ⟨as, g1⟩ := Inv.rdl I h1 r1 p1
  obtain ⟨bs, g2⟩ := Inv.rdl I h2 r2 p2
  cases rx; cases ry
  exact PySem.SeqAt.ne_plain g1 g2 (by rw [PyData.plain]; exact p1) (by rw [PyData.plain]; exact p2) (by rw [PyData.depth, PyData.depth]; have : min (PyData.depthAll (D.pys xs)) (PyData.depthAll (D.pys ys)) ≤ 60 := hz; omega) (fin_b I rm po q (by rw [xor_t, PyData.eqv]))⟩
theorem d_lt (hu : X.A.units + 64 < cLine) : D2 X (compareOp .Lt) rLt := ⟨by
  intro pins s σ H x y v u Q I rx ry ⟨d, e, M, Q', rd, re, rm, q, po⟩
  have gen : PySem.W.alike d.py e.py = true → d.py ≠ .none → d.pl → e.pl → min d.dep e.dep ≤ 60 → Q' (.bl (ltD d e)) M → wpAny (model X.prog X.w) X.A (compareOp .Lt v u) (EP X pins σ Q) X.xe s := fun al nn p1 p2 h q => by
    obtain ⟨as, r1⟩ := Inv.rd I rd p1 rx
    obtain ⟨bs, r2⟩ := Inv.rd I re p2 ry
    exact PySem.W.lt_data r1 r2 al nn (by have : min d.py.depth e.py.depth ≤ 60 := h; omega) (fin_b I rm po q rfl)
  cases d <;> cases e <;> first
    | (obtain ⟨q1, q2, q3, q4, q5, q6⟩ := q; exact gen q1 q2 q4 q5 q3 q6)
    | (refine gen rfl (by simp [D.py]) rfl rfl (by simp [D.dep, D.py, PyData.depth]) ?_; simpa [rLt, ltD, D.py, PySem.W.dataLt_int] using q)⟩
theorem d_le : D2 X (compareOp .LtE) rLe := d_i20 op_le fun _ _ _ => .bl _
theorem d_gt : D2 X (compareOp .Gt) rGt := d_i20 op_gt fun _ _ _ => .bl _
theorem d_ge : D2 X (compareOp .GtE) rGe := d_i20 op_ge fun _ _ _ => .bl _
theorem relD_isNon {K : PySem.W.Frag} {H : Hp} {d : D} {v : V} (r : RelD K H d v) : decide (v = .non) = d.isNon := by cases r <;> rfl
theorem d_is : D2 X (compareOp .Is) rIs := ⟨by
  intro pins s σ H x y v u Q I rx ry ⟨d, e, M, Q', rd, re, rm, q, po⟩
  cases re with
  | non => exact op_isN pins s σ H _ _ v u Q I rx ry ⟨rfl, po.here rm (.bl _) (by rw [relD_isNon rd]; rw [← xor_f d.isNon]; exact q)⟩
  | bl b =>
    cases rd <;> first
      | exact False.elim q
      | exact op_isBl pins s σ H _ _ v u Q I rx ry ⟨_, _, rfl, rfl, po.here rm (.bl _) (by rw [← xor_f (decide _)]; exact q)⟩
  | _ => exact False.elim q⟩
theorem d_isnot : D2 X (compareOp .IsNot) rIsNot := ⟨by
  intro pins s σ H x y v u Q I rx ry ⟨d, e, M, Q', rd, re, rm, q, po⟩
  cases re with
  | non => exact op_notN pins s σ H _ _ v u Q I rx ry ⟨rfl, po.here rm (.bl _) (by rw [relD_isNon rd]; rw [← xor_t d.isNon]; exact q)⟩
  | bl b =>
    cases rd <;> first
      | exact False.elim q
      | exact op_notBl pins s σ H _ _ v u Q I rx ry ⟨_, _, rfl, rfl, po.here rm (.bl _) (by rw [← xor_t (decide _)]; exact q)⟩
  | _ => exact False.elim q⟩
end
end MP

namespace MP
open PySem PySem.Spec PyProof.Rows L2

/-! ### statements -/
structure DEn where
  nx : Sl → Mem → Prop
  rt : D → Mem → Prop
  bk : Sl → Mem → Prop := fun _ _ => False
  ct : Sl → Mem → Prop := fun _ _ => False
structure DEn.le (A B : DEn) : Prop where
  nx : ∀ ρ M, A.nx ρ M → B.nx ρ M
  rt : ∀ d M, A.rt d M → B.rt d M
  bk : ∀ ρ M, A.bk ρ M → B.bk ρ M
  ct : ∀ ρ M, A.ct ρ M → B.ct ρ M
structure WS where
  f : DEn → Sl → Mem → Prop
  mono : ∀ A B ρ M, DEn.le A B → f A ρ M → f B ρ M
/-- a target; sl: the slots that it stores -/
structure WG where
  sl : List Nat
  f : D → Sl → Mem → (Sl → Mem → Prop) → Prop
  mono : ∀ d ρ M Q Q', (∀ ρ M, Q ρ M → Q' ρ M) → f d ρ M Q → f d ρ M Q'
structure WGs where
  sl : List Nat
  n : Nat
  f : List D → Sl → Mem → (Sl → Mem → Prop) → Prop
  mono : ∀ d ρ M Q Q', (∀ ρ M, Q ρ M → Q' ρ M) → f d ρ M Q → f d ρ M Q'
/-- what is walked: the items, and what must stand at each turn -/
structure WI where
  f : Sl → Mem → (List D → (Mem → Prop) → Mem → Prop) → Prop
  mono : ∀ ρ M Q Q', (∀ ds st M, Q ds st M → Q' ds st M) → f ρ M Q → f ρ M Q'

/-- the slots but some stand -/
def SlSame (σ σ' : L2.St) (vs : List Nat) : Prop := σ'.length = σ.length ∧ ∀ i : Nat, i ∉ vs → σ'[i]? = σ[i]?
section
variable (P : Program) (w : World) (K : PySem.W.Frag)
structure EPost (H : Hp) (M : Mem) (A : DEn) (B : Ends) : Prop where
  nx : ∀ σ ρ H' M', Step H M H' M' → RelM P w K H' M' → RelS K H' ρ σ → A.nx ρ M' → B.nx σ H'
  rt : ∀ v d H' M', Step H M H' M' → RelM P w K H' M' → RelD K H' d v → A.rt d M' → B.rt v H'
  bk : ∀ σ ρ H' M', Step H M H' M' → RelM P w K H' M' → RelS K H' ρ σ → A.bk ρ M' → B.bk σ H'
  ct : ∀ σ ρ H' M', Step H M H' M' → RelM P w K H' M' → RelS K H' ρ σ → A.ct ρ M' → B.ct σ H'
def lS (t : WS) : TS := fun B σ H => ∃ ρ M A, RelS K H ρ σ ∧ RelM P w K H M ∧ t.f A ρ M ∧ EPost P w K H M A B
def lG (t : WG) : TG := fun v σ H Q => ∃ d ρ M Q', RelD K H d v ∧ RelS K H ρ σ ∧ RelM P w K H M ∧ t.f d ρ M Q' ∧ ∀ σ' ρ' H' M', Step H M H' M' → RelM P w K H' M' → RelS K H' ρ' σ' → SlSame σ σ' t.sl → Q' ρ' M' → Q σ' H'
def lGs (t : WGs) : TGs := fun vs σ H Q => ∃ ds ρ M Q', RelDs K H ds vs ∧ RelS K H ρ σ ∧ RelM P w K H M ∧ t.f ds ρ M Q' ∧ ∀ σ' ρ' H' M', Step H M H' M' → RelM P w K H' M' → RelS K H' ρ' σ' → SlSame σ σ' t.sl → Q' ρ' M' → Q σ' H'
def ItOk (J : It) (items : List D) (stay : Mem → Prop) (H1 : Hp) : Prop :=
  ∀ i H M, Keep H1 H → RelM P w K H M → stay M → (items.length ≤ i → J.stop i H) ∧ ∀ d, items[i]? = some d → J.go i H ∧ ∀ x H', J.yld i H x H' → Step H M H' M ∧ RelM P w K H' M ∧ RelD K H' d x
def lI (t : WI) : TI := fun σ H R => ∃ ρ M Q', RelS K H ρ σ ∧ RelM P w K H M ∧ t.f ρ M Q' ∧ ∀ J items stay H' M', Step H M H' M' → RelM P w K H' M' → Q' items stay M' → ItOk P w K J items stay H' → R J H'
end
structure DS (X : Cx) (s : Stmt) (t : WS) : Prop where
  ps : PS X s (lS X.prog X.w X.K t)
structure DSs (X : Cx) (s : List Stmt) (t : WS) : Prop where
  pss : PSs X s (lS X.prog X.w X.K t)
structure DG (X : Cx) (e : Expr) (t : WG) : Prop where
  pg : PG X e (lG X.prog X.w X.K t)
structure DGs (X : Cx) (e : List Expr) (t : WGs) : Prop where
  pgs : PGs X e (lGs X.prog X.w X.K t)
structure DI (X : Cx) (tg e : Expr) (t : WI) : Prop where
  pi : PI X tg e (lI X.prog X.w X.K t)
theorem PS.imp {X : Cx} {s : Stmt} {t u : TS} (h : PS X s t) (i : ∀ D σ H, u D σ H → t D σ H) : PS X s u := ⟨fun pins s σ H D I q => h.run pins s σ H D I (i _ _ _ q)⟩
theorem PSs.imp {X : Cx} {s : List Stmt} {t u : TS} (h : PSs X s t) (i : ∀ D σ H, u D σ H → t D σ H) : PSs X s u := ⟨fun pins s σ H D I q => h.run pins s σ H D I (i _ _ _ q)⟩
theorem PG.imp {X : Cx} {e : Expr} {t u : TG} (h : PG X e t) (i : ∀ v σ H Q, u v σ H Q → t v σ H Q) : PG X e u := ⟨fun pins s σ H v uv Q I r q => h.run pins s σ H v uv Q I r (i _ _ _ _ q)⟩
theorem PGs.imp {X : Cx} {e : List Expr} {t u : TGs} (h : PGs X e t) (i : ∀ v σ H Q, u v σ H Q → t v σ H Q) : PGs X e u := ⟨fun pins s σ H v uv Q I r q => h.run pins s σ H v uv Q I r (i _ _ _ _ q)⟩
theorem PI.imp {X : Cx} {tg e : Expr} {t u : TI} (h : PI X tg e t) (i : ∀ σ H R, u σ H R → t σ H R) : PI X tg e u := ⟨fun pins s σ H R I q => h.run pins s σ H R I (i _ _ _ q)⟩
section
variable {P : Program} {w : World} {K : PySem.W.Frag} {H H' H1 : Hp} {M M' M1 : Mem} {A : DEn} {B : Ends}
theorem EPost.after (p : EPost P w K H M A B) (s : Step H M H1 M1) : EPost P w K H1 M1 A B :=
  ⟨fun σ ρ H' M' st => p.nx σ ρ H' M' (s.trans st), fun v d H' M' st => p.rt v d H' M' (s.trans st), fun σ ρ H' M' st => p.bk σ ρ H' M' (s.trans st), fun σ ρ H' M' st => p.ct σ ρ H' M' (s.trans st)⟩
theorem SlSame.refl {σ : L2.St} {vs : List Nat} : SlSame σ σ vs := ⟨rfl, fun _ _ => rfl⟩
theorem SlSame.trans {σ σ1 σ2 : L2.St} {vs ws : List Nat} (a : SlSame σ σ1 vs) (b : SlSame σ1 σ2 ws) : SlSame σ σ2 (vs ++ ws) :=
  ⟨b.1.trans a.1, fun i h => by
    rw [List.mem_append, not_or] at h
    exact (b.2 i h.2).trans (a.2 i h.1)⟩
end

def sNil : WS := ⟨fun A ρ M => A.nx ρ M, fun _ _ _ _ h q => h.nx _ _ q⟩
def sSeq (a b : WS) : WS := ⟨fun A ρ M => a.f { A with nx := b.f A } ρ M, fun A B ρ M h q => a.mono { A with nx := b.f A } { B with nx := b.f B } ρ M ⟨fun ρ M q => b.mono A B ρ M h q, h.rt, h.bk, h.ct⟩ q⟩
def sBreak : WS := ⟨fun A ρ M => A.bk ρ M, fun _ _ _ _ h q => h.bk _ _ q⟩
def sCont : WS := ⟨fun A ρ M => A.ct ρ M, fun _ _ _ _ h q => h.ct _ _ q⟩
def sDrop (e : WE) : WS := ⟨fun A ρ M => e.f ρ M fun _ M1 => A.nx ρ M1, fun _ _ _ _ h q => e.mono _ _ _ _ (fun _ _ q => h.nx _ _ q) q⟩
def sRet (e : WE) : WS := ⟨fun A ρ M => e.f ρ M A.rt, fun _ _ _ _ h q => e.mono _ _ _ _ h.rt q⟩
def sRetN : WS := ⟨fun A _ M => A.rt .non M, fun _ _ _ _ h q => h.rt _ _ q⟩
def sIf (c : WT) (a b : WS) : WS := ⟨fun A ρ M => c.f ρ M fun k M1 => (k = true → a.f A ρ M1) ∧ (k = false → b.f A ρ M1),
  fun _ _ _ _ h q => c.mono _ _ _ _ (fun _ _ q => ⟨fun e => a.mono _ _ _ _ h (q.1 e), fun e => b.mono _ _ _ _ h (q.2 e)⟩) q⟩
def gN (i : Nat) : WG := ⟨[i], fun d ρ M Q => Q (ρ.set i (some d)) M, fun _ _ _ _ _ h q => h _ _ q⟩
def gsNil : WGs := ⟨[], 0, fun ds ρ M Q => ds = [] ∧ Q ρ M, fun _ _ _ _ _ h q => ⟨q.1, h _ _ q.2⟩⟩
def gsCons (a : WG) (b : WGs) : WGs := ⟨a.sl ++ b.sl, b.n + 1, fun ds ρ M Q => ∃ d es, ds = d :: es ∧ a.f d ρ M fun ρ1 M1 => b.f es ρ1 M1 Q,
  fun _ _ _ _ _ h ⟨d, es, e, q⟩ => ⟨d, es, e, a.mono _ _ _ _ _ (fun _ _ q => b.mono _ _ _ _ _ h q) q⟩⟩
/-- (a, b, ..) = a tuple -/
def gT (t : WGs) : WG := ⟨t.sl, fun d ρ M Q => ∃ xs, d = .tup xs ∧ xs.length = t.n ∧ t.f xs ρ M Q, fun _ _ _ _ _ h ⟨xs, e, l, q⟩ => ⟨xs, e, l, t.mono _ _ _ _ _ h q⟩⟩
def sAsg (e : WE) (g : WG) : WS := ⟨fun A ρ M => e.f ρ M fun d M1 => g.f d ρ M1 A.nx, fun _ _ _ _ h q => e.mono _ _ _ _ (fun _ _ q => g.mono _ _ _ _ _ h.nx q) q⟩
def sPar (i j : Nat) (t : WA) : WS := ⟨fun A ρ M => t.f ρ M fun ds M1 => ∃ d e, ds = [d, e] ∧ A.nx ((ρ.set i (some d)).set j (some e)) M1,
  fun _ _ _ _ h q => t.mono _ _ _ _ (fun _ _ ⟨d, e, e1, q⟩ => ⟨d, e, e1, h.nx _ _ q⟩) q⟩
def sAug (i : Nat) (e : WE) (r : W2) : WS := ⟨fun A ρ M => ∃ d, ρ[i]? = some (some d) ∧ e.f ρ M fun c M1 => r.f d c M1 fun z M2 => A.nx (ρ.set i (some z)) M2,
  fun _ _ _ _ h ⟨d, e1, q⟩ => ⟨d, e1, e.mono _ _ _ _ (fun _ _ q => r.mono _ _ _ _ _ (fun _ _ q => h.nx _ _ q) q) q⟩⟩
def sWhile (c : WT) (b : WS) : WS := ⟨fun A ρ M => ∃ W : Nat → Sl → Mem → Prop, (∃ m, W m ρ M) ∧ ∀ m ρ M, W m ρ M → c.f ρ M fun k M1 =>
    (k = true → b.f { A with nx := fun ρ M => ∃ m', m' < m ∧ W m' ρ M, ct := fun ρ M => ∃ m', m' < m ∧ W m' ρ M, bk := A.nx } ρ M1) ∧ (k = false → A.nx ρ M1),
  fun A B _ _ h ⟨W, h0, hs⟩ => ⟨W, h0, fun m ρ M hw => c.mono _ _ _ _ (fun _ M1 q => ⟨fun e => b.mono { A with nx := fun ρ M => ∃ m', m' < m ∧ W m' ρ M, ct := fun ρ M => ∃ m', m' < m ∧ W m' ρ M, bk := A.nx }
      { B with nx := fun ρ M => ∃ m', m' < m ∧ W m' ρ M, ct := fun ρ M => ∃ m', m' < m ∧ W m' ρ M, bk := B.nx } ρ M1 ⟨fun _ _ q => q, h.rt, h.nx, fun _ _ q => q⟩ (q.1 e), fun e => h.nx _ _ (q.2 e)⟩) (hs m ρ M hw)⟩⟩
def loopF (g : WG) (b : WS) (stay : Mem → Prop) (A : DEn) : List D → Sl → Mem → Prop
  | [], ρ, M => stay M ∧ A.nx ρ M
  | x :: xs, ρ, M => stay M ∧ g.f x ρ M fun ρ2 M2 => b.f { A with nx := loopF g b stay A xs, ct := loopF g b stay A xs, bk := A.nx } ρ2 M2
theorem loopF_mono {g : WG} {b : WS} {stay : Mem → Prop} {A B : DEn} (h : DEn.le A B) : ∀ (xs : List D) (ρ : Sl) (M : Mem), loopF g b stay A xs ρ M → loopF g b stay B xs ρ M
  | [], ρ, M, q => ⟨q.1, h.nx _ _ q.2⟩
  | x :: xs, ρ, M, q => ⟨q.1, g.mono _ _ _ _ _ (fun ρ2 M2 q => b.mono { A with nx := loopF g b stay A xs, ct := loopF g b stay A xs, bk := A.nx } { B with nx := loopF g b stay B xs, ct := loopF g b stay B xs, bk := B.nx } ρ2 M2 ⟨loopF_mono h xs, h.rt, h.nx, loopF_mono h xs⟩ q) q.2⟩
def sFor (wi : WI) (g : WG) (b : WS) : WS := ⟨fun A ρ M => wi.f ρ M fun items stay M1 => loopF g b stay A items ρ M1, fun _ _ _ _ h q => wi.mono _ _ _ _ (fun ds st M q => loopF_mono h ds _ M q) q⟩

section
variable {X : Cx} {st : Stmt} {rest : List Stmt} {t u : WS} {e : Expr} {we : WE} {pos : Pos}
theorem dss_nil : DSs X [] sNil := ⟨PSs.imp pss_nil fun D σ H ⟨ρ, M, A, rs, rm, q, po⟩ => po.nx σ ρ H M Step.refl rm rs q⟩
theorem dss_cons (h1 : DS X st t) (h2 : DSs X rest u) : DSs X (st :: rest) (sSeq t u) :=
  ⟨PSs.imp (pss_cons h1.ps h2.pss) fun D σ H ⟨ρ, M, A, rs, rm, q, po⟩ => ⟨ρ, M, { A with nx := u.f A }, rs, rm, q, ⟨fun σ' ρ' H' M' s' m' r' q' => ⟨ρ', M', A, r', m', q', po.after s'⟩, po.rt, po.bk, po.ct⟩⟩⟩
theorem dss_one (h1 : DS X st t) : DSs X [st] t := ⟨pss_one h1.ps⟩
theorem ds_pass : DS X (.Pass pos) sNil := ⟨PS.imp ps_pass fun D σ H ⟨ρ, M, A, rs, rm, q, po⟩ => po.nx σ ρ H M Step.refl rm rs q⟩
theorem ds_break : DS X (.Break pos) sBreak := ⟨PS.imp ps_break fun D σ H ⟨ρ, M, A, rs, rm, q, po⟩ => po.bk σ ρ H M Step.refl rm rs q⟩
theorem ds_continue : DS X (.Continue pos) sCont := ⟨PS.imp ps_continue fun D σ H ⟨ρ, M, A, rs, rm, q, po⟩ => po.ct σ ρ H M Step.refl rm rs q⟩
theorem ds_doc {x j pos pos'} : DS X (.Expr (.Constant (.str x) j pos) pos') sNil := ⟨PS.imp ps_doc fun D σ H ⟨ρ, M, A, rs, rm, q, po⟩ => po.nx σ ρ H M Step.refl rm rs q⟩
theorem ds_expr (he : DE X e we) (hs : swapsWith e none pos.line X.env = pure false := by rfl) : DS X (.Expr e pos) (sDrop we) :=
  ⟨PS.imp (ps_expr he.pe hs) fun D σ H ⟨ρ, M, A, rs, rm, q, po⟩ => ⟨ρ, M, _, rs, rm, q, fun v d H' M' s' m' r' q' => po.nx σ ρ H' M' s' m' (rs.keep (s'.keep rm)) q'⟩⟩
theorem ds_ret (he : DE X e we) : DS X (.Return (some e) pos) (sRet we) :=
  ⟨PS.imp (ps_ret he.pe) fun D σ H ⟨ρ, M, A, rs, rm, q, po⟩ => ⟨ρ, M, _, rs, rm, q, fun v d H' M' s' m' r' q' => po.rt v d H' M' s' m' r' q'⟩⟩
theorem ds_retN : DS X (.Return none pos) sRetN := ⟨PS.imp ps_retN fun D σ H ⟨ρ, M, A, rs, rm, q, po⟩ => po.rt .non .non H M Step.refl rm .non q⟩
theorem ds_if {c : Expr} {a b : List Stmt} {tc : WT} (hc : DT X c tc) (ha : DSs X a t) (hb : DSs X b u) : DS X (.If c a b pos) (sIf tc t u) :=
  ⟨PS.imp (ps_if hc.pt ha.pss hb.pss) fun D σ H ⟨ρ, M, A, rs, rm, q, po⟩ => ⟨ρ, M, _, rs, rm, q, fun k H1 M1 s1 m1 q1 => by
    cases k with
    | true => exact iteT ⟨ρ, M1, A, rs.keep (s1.keep rm), m1, q1.1 rfl, po.after s1⟩
    | false => exact iteF ⟨ρ, M1, A, rs.keep (s1.keep rm), m1, q1.2 rfl, po.after s1⟩⟩⟩
theorem SlSame.set {σ : L2.St} {i : Nat} {x : Option V} : SlSame σ (σ.set i x) [i] := ⟨List.length_set, fun j hj => by
  rw [List.getElem?_set_ne]
  intro e; subst e; exact hj (List.mem_singleton.mpr rfl)⟩
theorem dg_name {i : Nat} {x : Str} (hN : X.N.Nodup) (hi : X.N[i]? = some x) (hx : Loc X.env.scope x) (hf : X.fn x = true ∨ X.env.scope.names.lookup x = some .local := by first | exact .inl rfl | exact .inr rfl | assumption) : DG X (.Name x pos) (gN i) :=
  ⟨PG.imp (pg_name hN hi hx hf) fun v σ H Q ⟨d, ρ, M, Q', rd, rs, rm, q, po⟩ => po _ _ H M Step.refl rm (rs.set i rd) SlSame.set q⟩
theorem dgs_nil : DGs X [] gsNil := ⟨PGs.imp pgs_nil fun vs σ H Q ⟨ds, ρ, M, Q', rd, rs, rm, ⟨e, q⟩, po⟩ => by
  subst e
  exact ⟨rd.nil_iff.mpr rfl, po σ ρ H M Step.refl rm rs SlSame.refl q⟩⟩
theorem dgs_cons {es : List Expr} {a : WG} {b : WGs} (h1 : DG X e a) (h2 : DGs X es b) (hs : (assignEach (e :: es) X.env).map (·.2) = assign e X.env :: (assignEach es X.env).map (·.2) := by rfl) : DGs X (e :: es) (gsCons a b) :=
  ⟨PGs.imp (pgs_cons h1.pg h2.pgs hs) fun vs σ H Q ⟨ds, ρ, M, Q', rd, rs, rm, ⟨d, ds', e, q⟩, po⟩ => by
    subst e
    cases rd with
    | cons r1 r2 => exact ⟨_, _, rfl, d, ρ, M, _, r1, rs, rm, q, fun σ1 ρ1 H1 M1 s1 m1 rs1 ss1 q1 => ⟨ds', ρ1, M1, Q', r2.keep (s1.keep rm), rs1, m1, q1, fun σ2 ρ2 H2 M2 s2 m2 rs2 ss2 q2 =>
        po σ2 ρ2 H2 M2 (s1.trans s2) m2 rs2 (ss1.trans ss2) q2⟩⟩⟩
theorem dg_tup {es : List Expr} {k : Nat} {b : WGs} (hc : X.calm = true) (h : DGs X es b) (hn : (assignEach es X.env).length = b.n := by rfl) (hst : (assignEach es X.env).findIdx? (·.1) = none := by rfl) : DG X (.Tuple es k pos) (gT b) :=
  ⟨PG.imp (pg_tup hc h.pgs hn hst) fun v σ H Q ⟨d, ρ, M, Q', rd, rs, rm, ⟨xs, e, l, q⟩, po⟩ => by
    subst e
    cases rd with
    | tup ha hr => exact ⟨_, _, rfl, ha.sq, by rw [← hr.length]; exact l, xs, ρ, M, Q', hr, rs, rm, q, po⟩⟩
theorem ds_asg {tg : Expr} {g : WG} (he : DE X e we) (hg : DG X tg g) (hs : swapsWithSole [tg] e pos.line X.env = pure false := by rfl) (hw : swappedStores [tg] e X.env = pure none := by rfl)
    (h1 : (assignEach [tg] X.env).map (·.2) = [assign tg X.env] := by rfl) : DS X (.Assign [tg] e pos) (sAsg we g) :=
  ⟨PS.imp (ps_asg he.pe hg.pg hs hw h1) fun D σ H ⟨ρ, M, A, rs, rm, q, po⟩ => ⟨ρ, M, _, rs, rm, q, fun v d H1 M1 s1 m1 r1 q1 => ⟨d, ρ, M1, _, r1, rs.keep (s1.keep rm), m1, q1, fun σ2 ρ2 H2 M2 s2 m2 r2 _ q2 => po.nx σ2 ρ2 H2 M2 (s1.trans s2) m2 r2 q2⟩⟩⟩
theorem ds_set {i : Nat} {x : Str} {pos' : Pos} (hN : X.N.Nodup) (hi : X.N[i]? = some x) (hx : Loc X.env.scope x) (he : DE X e we) (hs : swapsWith e (some (.Name x pos')) pos.line X.env = pure false := by rfl) (hf : X.fn x = true ∨ X.env.scope.names.lookup x = some .local := by first | exact .inl rfl | exact .inr rfl | assumption) :
    DS X (.Assign [.Name x pos'] e pos) (sAsg we (gN i)) :=
  ⟨PS.imp (ps_set hN hi hx he.pe hs hf) fun D σ H ⟨ρ, M, A, rs, rm, q, po⟩ => ⟨ρ, M, _, rs, rm, q, fun v d H1 M1 s1 m1 r1 q1 => po.nx _ _ H1 M1 s1 m1 ((rs.keep (s1.keep rm)).set i r1) q1⟩⟩
theorem ds_par {i j : Nat} {x y : Str} {a b : Expr} {ta : WA} {px py pt : Pos} {kt k2 pt2} (hc : X.calm = true) (hN : X.N.Nodup) (hi : X.N[i]? = some x) (hj : X.N[j]? = some y) (hij : i ≠ j)
    (hx : X.env.scope.names.lookup x = some .local) (hy : X.env.scope.names.lookup y = some .local) (ha : DA X [a, b] ta)
    (hw : swappedStores [.Tuple [.Name x px, .Name y py] kt pt] (.Tuple [a, b] k2 pt2) X.env = pure (some [x, y]))
    (hs : swapsWithSole [.Tuple [.Name x px, .Name y py] kt pt] (.Tuple [a, b] k2 pt2) pos.line X.env = pure false := by rfl) :
    DS X (.Assign [.Tuple [.Name x px, .Name y py] kt pt] (.Tuple [a, b] k2 pt2) pos) (sPar i j ta) :=
  ⟨PS.imp (ps_par hc hN hi hj hij hx hy ha.pa hw hs) fun D σ H ⟨ρ, M, A, rs, rm, q, po⟩ => ⟨ρ, M, _, rs, rm, q, fun vs ds H1 M1 s1 m1 r1 ⟨d, c, e, q1⟩ => by
    subst e
    cases r1 with
    | cons ra rr =>
      cases rr with
      | cons rb rr =>
        cases rr
        exact ⟨_, _, rfl, po.nx _ _ H1 M1 s1 m1 (((rs.keep (s1.keep rm)).set i ra).set j rb) q1⟩⟩⟩
/-- an operator as += takes it -/
structure DIp (X : Cx) (op : Operator) (r : W2) : Prop where
  ip : PIp X op (l2 X.prog X.w X.K r)
theorem ds_aug {i : Nat} {x : Str} {op : Operator} {r : W2} {pos' : Pos} (hN : X.N.Nodup) (hi : X.N[i]? = some x) (hx : Loc X.env.scope x) (he : DE X e we) (ho : DIp X op r) (hf : X.fn x = true ∨ X.env.scope.names.lookup x = some .local := by first | exact .inl rfl | exact .inr rfl | assumption) :
    DS X (.AugAssign (.Name x pos') op e pos) (sAug i we r) :=
  ⟨PS.imp (ps_aug hN hi hx he.pe ho.ip hf) fun D σ H ⟨ρ, M, A, rs, rm, ⟨d, e1, q⟩, po⟩ => by
    obtain ⟨v, h1, h2⟩ := rs.2 i d e1
    exact ⟨v, h1, ρ, M, _, rs, rm, q, fun v2 c H1 M1 s1 m1 r1 q1 => ⟨d, c, M1, _, h2.keep (s1.keep rm), r1, m1, q1, fun v3 z H2 M2 s2 m2 r2 q2 =>
      po.nx _ _ H2 M2 (s1.trans s2) m2 ((rs.keep ((s1.trans s2).keep rm)).set i r2) q2⟩⟩⟩
theorem ds_while {c : Expr} {body : List Stmt} {tc : WT} {tb : WS} (hp : PassesOwn (model X.prog X.w) X.A X.env X.xe) (hc : DT X c tc) (hb : DSs X body tb) : DS X (.While c body [] pos) (sWhile tc tb) :=
  ⟨PS.imp (ps_while hp hc.pt hb.pss) fun D σ H ⟨ρ, M, A, rs, rm, ⟨W, ⟨m0, w0⟩, turn⟩, po⟩ => by
    refine ⟨fun m σ1 H1 => ∃ ρ1 M1, Step H M H1 M1 ∧ RelM X.prog X.w X.K H1 M1 ∧ RelS X.K H1 ρ1 σ1 ∧ W m ρ1 M1, ⟨m0, ρ, M, Step.refl, rm, rs, w0⟩, ?_⟩
    rintro m σ1 H1 ⟨ρ1, M1, s1, m1, r1, w1⟩
    refine ⟨ρ1, M1, _, r1, m1, turn m ρ1 M1 w1, fun k H2 M2 s2 m2 q2 => ?_⟩
    cases k with
    | true =>
      refine iteT ⟨fun σ' H' => ∃ m', m' < m ∧ ∃ ρ' M', Step H M H' M' ∧ RelM X.prog X.w X.K H' M' ∧ RelS X.K H' ρ' σ' ∧ W m' ρ' M', fun σ' H' ⟨m', l, r⟩ => ⟨m', l, r⟩, ρ1, M2, { A with nx := fun ρ M => ∃ m', m' < m ∧ W m' ρ M, ct := fun ρ M => ∃ m', m' < m ∧ W m' ρ M, bk := A.nx }, r1.keep (s2.keep m1), m2, q2.1 rfl, ?_⟩
      exact ⟨fun σ' ρ' H' M' s' mm r' ⟨m', l, w'⟩ => ⟨m', l, ρ', M', s1.trans (s2.trans s'), mm, r', w'⟩, fun v d H' M' s' mm r' q' => po.rt v d H' M' (s1.trans (s2.trans s')) mm r' q', fun σ' ρ' H' M' s' mm r' q' => po.nx σ' ρ' H' M' (s1.trans (s2.trans s')) mm r' q',
        fun σ' ρ' H' M' s' mm r' ⟨m', l, w'⟩ => ⟨m', l, ρ', M', s1.trans (s2.trans s'), mm, r', w'⟩⟩
    | false => exact iteF (po.nx σ1 ρ1 H2 M2 (s1.trans s2) m2 (r1.keep (s2.keep m1)) (q2.2 rfl))⟩
theorem ds_for {tg iter : Expr} {body : List Stmt} {wi : WI} {g : WG} {tb : WS} (hp : PassesOwn (model X.prog X.w) X.A X.env X.xe) (hc : X.calm = true) (hi : DI X tg iter wi) (hg : DG X tg g) (hb : DSs X body tb)
    (hs : ∀ x, foldedSetIterable iter X.env x = pure x := by intro _; rfl) : DS X (.For tg iter body [] pos) (sFor wi g tb) :=
  ⟨PS.imp (ps_for hp hc hi.pi hg.pg hb.pss hs) fun D σ H ⟨ρ, M, A, rs, rm, q, po⟩ => ⟨ρ, M, _, rs, rm, q, fun J items stay H1 M1 s1 m1 q1 ok => by
    refine ⟨fun i m σ2 H2 => i + m = items.length ∧ ∃ ρ2 M2, Step H1 M1 H2 M2 ∧ RelM X.prog X.w X.K H2 M2 ∧ RelS X.K H2 ρ2 σ2 ∧ loopF g tb stay A (items.drop i) ρ2 M2, ⟨items.length, by omega, ρ, M1, Step.refl, m1, rs.keep (s1.keep rm), by rw [List.drop_zero]; exact q1⟩, ?_⟩
    rintro i m σ2 H2 ⟨hm, ρ2, M2, s2, m2, r2, q2⟩
    by_cases hi : i < items.length
    · right
      rw [List.drop_eq_getElem_cons hi] at q2
      obtain ⟨sy, q2⟩ := q2
      obtain ⟨_, k2⟩ := ok i H2 M2 (s2.keep m1) m2 sy
      obtain ⟨go, yl⟩ := k2 _ (List.getElem?_eq_getElem hi)
      refine ⟨go, fun σ' H' => ∃ ρ' M', Step H1 M1 H' M' ∧ RelM X.prog X.w X.K H' M' ∧ RelS X.K H' ρ' σ' ∧ loopF g tb stay A (items.drop (i + 1)) ρ' M', fun σ' H' h => ⟨m - 1, by omega, by omega, h⟩, fun x H' hy => ?_⟩
      obtain ⟨s3, m3, r3⟩ := yl x H' hy
      refine ⟨_, ρ2, M2, _, r3, r2.keep (s3.keep m2), m3, q2, fun σ4 ρ4 H4 M4 s4 m4 r4 _ q4 => ⟨ρ4, M4, { A with nx := loopF g tb stay A (items.drop (i + 1)), ct := loopF g tb stay A (items.drop (i + 1)), bk := A.nx }, r4, m4, q4, ?_⟩⟩
      have s14 := s2.trans (s3.trans s4)
      exact ⟨fun σ' ρ' H' M' s' mm r' q' => ⟨ρ', M', s14.trans s', mm, r', q'⟩, fun v d H' M' s' mm r' q' => po.rt v d H' M' (s1.trans (s14.trans s')) mm r' q', fun σ' ρ' H' M' s' mm r' q' => po.nx σ' ρ' H' M' (s1.trans (s14.trans s')) mm r' q',
        fun σ' ρ' H' M' s' mm r' q' => ⟨ρ', M', s14.trans s', mm, r', q'⟩⟩
    · left
      rw [List.drop_of_length_le (by omega)] at q2
      obtain ⟨sy, q2⟩ := q2
      exact ⟨(ok i H2 M2 (s2.keep m1) m2 sy).1 (by omega), po.nx σ2 ρ2 H2 M2 (s1.trans s2) m2 r2 q2⟩⟩⟩
end
end MP

namespace MP
open PySem PySem.Spec PyProof.Rows L2

/-! ### what is walked -/
def strD (z : Str) : List D := z.cps.toList.map fun c => .str ⟨#[c]⟩
/-- a tuple, a list, a text (a dict: MPg) by its value -/
def iSeqF (d : D) (M : Mem) (Q : List D → (Mem → Prop) → Mem → Prop) : Prop := match d with
  | .tup xs => Q xs (fun _ => True) M
  | .fl xs => Q xs (fun _ => True) M
  | .str z => Q (strD z) (fun _ => True) M
  | .ref a => ∃ xs, M a = some (.lst xs) ∧ Q xs (fun M => M a = some (.lst xs)) M
  | _ => False
def iSeq (e : WE) : WI := ⟨fun ρ M Q => e.f ρ M fun d M1 => iSeqF d M1 Q, fun ρ M Q Q' h q => e.mono _ _ _ _ (fun d M q => by
  cases d <;> first | exact q.elim | exact h _ _ _ q | (obtain ⟨xs, e, q⟩ := q; exact ⟨xs, e, h _ _ _ q⟩)) q⟩
def rngD (lo : Int) (n : Nat) : List D := (List.range n).map fun i => .int (lo + (i : Nat))
def iR1 (t : WA) : WI := ⟨fun ρ M Q => t.f ρ M fun ds M1 => ∃ j : Int, ds = [.int j] ∧ j < 2 ^ 62 ∧ -(2 ^ 62) ≤ j ∧ Q (rngD 0 j.toNat) (fun _ => True) M1,
  fun ρ M Q Q' h q => t.mono _ _ _ _ (fun _ _ ⟨j, e, h1, h2, q⟩ => ⟨j, e, h1, h2, h _ _ _ q⟩) q⟩
def iR2 (t : WA) : WI := ⟨fun ρ M Q => t.f ρ M fun ds M1 => ∃ i j : Int, ds = [.int i, .int j] ∧ (-(2 ^ 62) ≤ i ∧ i < 2 ^ 62 ∧ -(2 ^ 62) ≤ j ∧ j < 2 ^ 62) ∧ Q (rngD i (j - i).toNat) (fun _ => True) M1,
  fun ρ M Q Q' h q => t.mono _ _ _ _ (fun _ _ ⟨i, j, e, h1, q⟩ => ⟨i, j, e, h1, h _ _ _ q⟩) q⟩
def enumD (i : Nat) : List D → List D
  | [] => []
  | x :: xs => .tup [.int (i : Nat), x] :: enumD (i + 1) xs
def iEnumL (t : WA) : WI := ⟨fun ρ M Q => t.f ρ M fun ds M1 => ∃ a xs, ds = [.ref a] ∧ M1 a = some (.lst xs) ∧ Q (enumD 0 xs) (fun M => M a = some (.lst xs)) M1,
  fun ρ M Q Q' h q => t.mono _ _ _ _ (fun _ _ ⟨i, j, e, h1, q⟩ => ⟨i, j, e, h1, h _ _ _ q⟩) q⟩
def zipD : List D → List D → List D
  | x :: xs, y :: ys => .tup [x, y] :: zipD xs ys
  | _, _ => []
/-- zip of two tuples, of two lists -/
def iZipF (ds : List D) (M : Mem) (Q : List D → (Mem → Prop) → Mem → Prop) : Prop := match ds with
  | [.tup xs, .tup ys] => Q (zipD xs ys) (fun _ => True) M
  | [.ref a, .ref b] => ∃ xs ys, M a = some (.lst xs) ∧ M b = some (.lst ys) ∧ Q (zipD xs ys) (fun M => M a = some (.lst xs) ∧ M b = some (.lst ys)) M
  | _ => False
theorem iZipF_mono {ds : List D} {M : Mem} {Q Q' : List D → (Mem → Prop) → Mem → Prop} (h : ∀ ds st M, Q ds st M → Q' ds st M) (q : iZipF ds M Q) : iZipF ds M Q' := by
  unfold iZipF at q ⊢
  split at q
  · exact h _ _ _ q
  · obtain ⟨xs, ys, e1, e2, q⟩ := q; exact ⟨xs, ys, e1, e2, h _ _ _ q⟩
  · exact q.elim
def iZipW (t : WA) : WI := ⟨fun ρ M Q => t.f ρ M fun ds M1 => iZipF ds M1 Q, fun ρ M Q Q' h q => t.mono _ _ _ _ (fun _ _ q => iZipF_mono h q) q⟩
section
variable {P : Program} {w : World} {K : PySem.W.Frag} {H : Hp}
theorem itok_tup {a : Addr} {ds : List D} {xs : List V} (h : TupAt K H a xs) (r : RelDs K H ds xs) : ItOk P w K (Itt K a) ds (fun _ => True) H := fun i H1 M1 k m1 _ => by
  have h1 := (h.keep k).sq
  have r1 := r.keep k
  refine ⟨fun hi => ⟨xs, h1, by rw [← r.length]; exact hi⟩, fun d hd => ?_⟩
  obtain ⟨v, hv, rv⟩ := r1.get hd
  refine ⟨⟨xs, v, h1, hv⟩, fun x H' hy => ?_⟩
  obtain ⟨e, y⟩ := hy
  subst e
  have := y xs h1
  rw [hv] at this
  cases this
  exact ⟨Step.refl, m1, rv⟩
theorem itok_fl {a : Addr} {ds : List D} {xs : List V} (h : FlAt K H a xs) (r : RelDs K H ds xs) : ItOk P w K (Itl K a) ds (fun _ => True) H := fun i H1 M1 k m1 _ => by
  have h1 := (h.keep k).sq
  have r1 := r.keep k
  refine ⟨fun hi => ⟨xs, h1, by rw [← r.length]; exact hi⟩, fun d hd => ?_⟩
  obtain ⟨v, hv, rv⟩ := r1.get hd
  refine ⟨⟨xs, v, h1, hv⟩, fun x H' hy => ?_⟩
  obtain ⟨e, y⟩ := hy
  subst e
  have := y xs h1
  rw [hv] at this
  cases this
  exact ⟨Step.refl, m1, rv⟩
theorem itok_lst {a : Addr} {ds : List D} : ItOk P w K (Itl K a) ds (fun M => M a = some (.lst ds)) H := fun i H1 M1 k m1 st => by
  obtain ⟨xs, h, r⟩ := m1 a _ st
  have h1 : SqL K H1 a xs := .inl (.inl h)
  refine ⟨fun hi => ⟨xs, h1, by rw [← r.length]; exact hi⟩, fun d hd => ?_⟩
  obtain ⟨v, hv, rv⟩ := r.get hd
  refine ⟨⟨xs, v, h1, hv⟩, fun x H' hy => ?_⟩
  obtain ⟨e, y⟩ := hy
  subst e
  have := y xs h1
  rw [hv] at this
  cases this
  exact ⟨Step.refl, m1, rv⟩
theorem itok_str {z : Str} : ItOk P w K (Its z) (strD z) (fun _ => True) H := fun i H1 M1 k m1 _ => by
  have hl : (strD z).length = z.cps.size := by simp [strD]
  refine ⟨fun hi => by rw [hl] at hi; exact hi, fun d hd => ?_⟩
  have hi : i < z.cps.size := by rw [← hl]; exact (List.getElem?_eq_some_iff.mp hd).1
  refine ⟨hi, fun x H' hy => ?_⟩
  obtain ⟨e, c, hc, ex⟩ := hy
  subst e ex
  have e2 : d = .str ⟨#[c]⟩ := by
    rw [strD, List.getElem?_map, Array.getElem?_toList, hc] at hd
    exact (Option.some.inj hd).symm
  subst e2
  exact ⟨Step.refl, m1, .str _⟩
theorem rngD_get {lo : Int} {n i : Nat} {d : D} (h : (rngD lo n)[i]? = some d) : i < n ∧ d = .int (lo + (i : Nat)) := by
  have hl : (rngD lo n).length = n := by simp [rngD]
  have hi : i < n := by have := (List.getElem?_eq_some_iff.mp h).1; rw [hl] at this; exact this
  refine ⟨hi, ?_⟩
  rw [rngD, List.getElem?_map, List.getElem?_range hi] at h
  exact (Option.some.inj h).symm
theorem itok_range {lo : Int} {n : Nat} : ItOk P w K (Itr lo n) (rngD lo n) (fun _ => True) H := fun i H1 M1 k m1 _ => by
  refine ⟨fun hi => (by simpa [rngD] using hi : n ≤ i), fun d hd => ?_⟩
  obtain ⟨hi, e⟩ := rngD_get hd
  refine ⟨hi, fun x H' hy => ?_⟩
  obtain ⟨e1, e2⟩ := hy
  subst e e1 e2
  exact ⟨Step.refl, m1, .int _⟩
theorem enumD_length : ∀ (xs : List D) (i : Nat), (enumD i xs).length = xs.length
  | [], _ => rfl
  | x :: xs, i => by rw [enumD, List.length_cons, List.length_cons, enumD_length xs]
theorem enumD_get : ∀ (xs : List D) (k i : Nat), (enumD k xs)[i]? = (xs[i]?).map fun x => .tup [.int ((k + i : Nat)), x]
  | [], _, _ => by simp [enumD]
  | x :: xs, k, 0 => by simp [enumD]
  | x :: xs, k, i + 1 => by
    rw [enumD, List.getElem?_cons_succ, List.getElem?_cons_succ, enumD_get xs (k + 1) i, show k + 1 + i = k + (i + 1) by omega]
theorem new_tup {M : Mem} (m : RelM P w K H M) {T : Addr} (hT : H T = none) {ds : List D} {xs : List V} (r : RelDs K H ds xs) : Step H M (upd H T (.tup xs)) M ∧ RelM P w K (upd H T (.tup xs)) M ∧ RelD K (upd H T (.tup xs)) (.tup ds) (.ref T) :=
  ⟨Step.beside hT, m.beside hT, .tup (.inl upd_same) (r.keep (keep_new hT))⟩
theorem itok_enum {a : Addr} {ds : List D} : ItOk P w K (Ite K a) (enumD 0 ds) (fun M => M a = some (.lst ds)) H := fun i H1 M1 k m1 st => by
  obtain ⟨xs, h, r⟩ := m1 a _ st
  have h1 : SqL K H1 a xs := .inl (.inl h)
  refine ⟨fun hi => ⟨xs, h1, by rw [← r.length]; rw [enumD_length] at hi; exact hi⟩, fun d hd => ?_⟩
  rw [enumD_get, Nat.zero_add] at hd
  obtain ⟨y, hy, e⟩ := Option.map_eq_some_iff.mp hd
  subst e
  obtain ⟨v, hv, rv⟩ := r.get hy
  refine ⟨⟨xs, v, h1, hv⟩, fun x H' hyl => ?_⟩
  obtain ⟨T, x', e1, hT, e2, q⟩ := hyl
  subst e1 e2
  have := q xs h1
  rw [hv] at this
  cases this
  exact new_tup m1 hT (.cons (.int _) (.cons rv .nil))
theorem zipD_get : ∀ (xs ys : List D) (i : Nat) (d : D), (zipD xs ys)[i]? = some d → ∃ x y, xs[i]? = some x ∧ ys[i]? = some y ∧ d = .tup [x, y]
  | [], _, _, _, h => by simp [zipD] at h
  | _ :: _, [], _, _, h => by simp [zipD] at h
  | x :: xs, y :: ys, 0, d, h => by simp [zipD] at h; subst h; exact ⟨x, y, rfl, rfl, rfl⟩
  | x :: xs, y :: ys, i + 1, d, h => by
    rw [zipD, List.getElem?_cons_succ] at h
    obtain ⟨a, b, h1, h2, h3⟩ := zipD_get xs ys i d h
    exact ⟨a, b, by simpa using h1, by simpa using h2, h3⟩
theorem zipD_length : ∀ (xs ys : List D), (zipD xs ys).length = min xs.length ys.length
  | [], ys => by simp [zipD]
  | _ :: _, [] => by simp [zipD]
  | x :: xs, y :: ys => by rw [zipD, List.length_cons, List.length_cons, List.length_cons, zipD_length xs ys]; omega
theorem itok_zipT {a b : Addr} {ds es : List D} {xs ys : List V} (h : TupAt K H a xs) (r : RelDs K H ds xs) (h' : TupAt K H b ys) (r' : RelDs K H es ys) : ItOk P w K (RZ.ItzT K a b) (zipD ds es) (fun _ => True) H := fun i H1 M1 k m1 _ => by
  have h1 := (h.keep k).sq
  have r1 := r.keep k
  have h2 := (h'.keep k).sq
  have r2 := r'.keep k
  refine ⟨fun hi => ⟨xs, ys, h1, h2, by rw [← r.length, ← r'.length]; rw [zipD_length] at hi; omega⟩, fun d hd => ?_⟩
  obtain ⟨x, y, hx, hy, e⟩ := zipD_get _ _ _ _ hd
  subst e
  obtain ⟨v, hv, rv⟩ := r1.get hx
  obtain ⟨u, hu, ru⟩ := r2.get hy
  refine ⟨⟨xs, ys, v, u, h1, h2, hv, hu⟩, fun z H' hyl => ?_⟩
  obtain ⟨T, x', y', e1, hT, e2, q1, q2⟩ := hyl
  subst e1 e2
  have z1 := q1 xs h1
  have z2 := q2 ys h2
  rw [hv] at z1; cases z1
  rw [hu] at z2; cases z2
  exact new_tup m1 hT (.cons rv (.cons ru .nil))
theorem itok_zipL {a b : Addr} {ds es : List D} : ItOk P w K (Itz K a b) (zipD ds es) (fun M => M a = some (.lst ds) ∧ M b = some (.lst es)) H := fun i H1 M1 k m1 st => by
  obtain ⟨xs, h, r⟩ := m1 a _ st.1
  obtain ⟨ys, h', r'⟩ := m1 b _ st.2
  have h1 : SqL K H1 a xs := .inl (.inl h)
  have h2 : SqL K H1 b ys := .inl (.inl h')
  refine ⟨fun hi => ⟨xs, ys, h1, h2, by rw [← r.length, ← r'.length]; rw [zipD_length] at hi; omega⟩, fun d hd => ?_⟩
  obtain ⟨x, y, hx, hy, e⟩ := zipD_get _ _ _ _ hd
  subst e
  obtain ⟨v, hv, rv⟩ := r.get hx
  obtain ⟨u, hu, ru⟩ := r'.get hy
  refine ⟨⟨xs, ys, v, u, h1, h2, hv, hu⟩, fun z H' hyl => ?_⟩
  obtain ⟨T, x', y', e1, hT, e2, q1, q2⟩ := hyl
  subst e1 e2
  have z1 := q1 xs h1
  have z2 := q2 ys h2
  rw [hv] at z1; cases z1
  rw [hu] at z2; cases z2
  exact new_tup m1 hT (.cons rv (.cons ru .nil))
end
section
variable {X : Cx} {tg l : Expr} {we : WE}
theorem di_seq (hl : DE X l we) : DI X tg l (iSeq we) := ⟨⟨fun pins s σ H R I ⟨ρ, M, Q', rs, rm, q, po⟩ => by
  refine thn (hl.pe.run pins s σ H (fun v H1 => ∃ d M1, Step H M H1 M1 ∧ RelM X.prog X.w X.K H1 M1 ∧ RelD X.K H1 d v ∧ iSeqF d M1 Q') I ⟨ρ, M, _, rs, rm, q, fun v d H1 M1 s1 m1 r1 q1 => ⟨d, M1, s1, m1, r1, q1⟩⟩) fun u s1 ⟨x, H1, I1, r1, d, M1, st1, m1, rd, q1⟩ => ?_
  have tup : ∀ {ds : List D} {a : Addr} {xs : List V}, TupAt X.K H1 a xs → RelDs X.K H1 ds xs → u = .ref a → Q' ds (fun _ => True) M1 → wpAny (model X.prog X.w) X.A (pyIter u) (PIE X pins σ tg R) X.xe s1 := fun {ds a xs} ht hr e q2 => by
    subst e
    obtain ⟨its, rv, p, hz⟩ := I1.tuple ht.sq
    refine wpAny_pyIter_tuple (show s1.heap.IsTuple a its.toArray from p) ?_
    exact pi_one (tk := s1.toks) I1 _ (turn_tuple a _) ⟨_, Heap.get?_push_size _ rfl, rfl, rfl⟩ (po _ _ _ H1 M1 st1 m1 q2 (itok_tup ht hr))
  have lst : ∀ {ds : List D} {a : Addr} {xs : List V} {stay : Mem → Prop}, SqL X.K H1 a xs → u = .ref a → Q' ds stay M1 → ItOk X.prog X.w X.K (Itl X.K a) ds stay H1 → wpAny (model X.prog X.w) X.A (pyIter u) (PIE X pins σ tg R) X.xe s1 := fun {ds a xs stay} ht e q2 ok => by
    subst e
    obtain ⟨its, rv, p, hz⟩ := I1.list ht
    refine wpAny_pyIter_list p.isList ?_
    exact pi_one (tk := s1.toks) I1 _ (turn_list a _) ⟨_, Heap.get?_push_size _ rfl, rfl, rfl⟩ (po _ _ _ H1 M1 st1 m1 q2 ok)
  cases rd with
  | tup ht hr => exact tup ht hr r1 q1
  | fl ht hr => exact lst ht.sq r1 q1 (itok_fl ht hr)
  | ref a =>
    obtain ⟨xs, e, q2⟩ := q1
    obtain ⟨vs, h, r⟩ := m1 a _ e
    exact lst (.inl (.inl h)) r1 q2 itok_lst
  | str z =>
    obtain ⟨t, rfl⟩ := r1
    cases ha : z.cps.all (· < 128)
    · exact wpAny_pyIter_wide ha (pi_one (tk := s1.toks) I1 _ (turn_str _ z t "str_iterator" (.inr rfl)) ⟨_, Heap.get?_push_size _ rfl, rfl, rfl⟩ (po _ _ _ H1 M1 st1 m1 q1 itok_str))
    · exact wpAny_pyIter_ascii ha (pi_one (tk := s1.toks) I1 _ (turn_str _ z t "str_ascii_iterator" (.inl rfl)) ⟨_, Heap.get?_push_size _ rfl, rfl, rfl⟩ (po _ _ _ H1 M1 st1 m1 q1 itok_str))
  | _ => exact False.elim q1⟩⟩
theorem rel1 {K : PySem.W.Frag} {H : Hp} {d : D} {vs : List V} (r : RelDs K H [d] vs) : ∃ v, vs = [v] ∧ RelD K H d v := by
  cases r with
  | cons a b => cases b; exact ⟨_, rfl, a⟩
theorem rel2 {K : PySem.W.Frag} {H : Hp} {d e : D} {vs : List V} (r : RelDs K H [d, e] vs) : ∃ v u, vs = [v, u] ∧ RelD K H d v ∧ RelD K H e u := by
  cases r with
  | cons a b =>
    obtain ⟨u, rfl, c⟩ := rel1 b
    exact ⟨_, _, rfl, a, c⟩
theorem rel_int {K : PySem.W.Frag} {H : Hp} {i : Int} {v : V} (r : RelD K H (.int i) v) : v = .int i := by cases r; rfl
theorem rel_ref {K : PySem.W.Frag} {H : Hp} {i : Addr} {v : V} (r : RelD K H (.ref i) v) : v = .ref i := by cases r; rfl
theorem rel_str {K : PySem.W.Frag} {H : Hp} {i : Str} {v : V} (r : RelD K H (.str i) v) : v = .str i := by cases r; rfl
theorem di_range1 {a : Expr} {t : WA} {p pos : Pos} (hg : Gl X "range") (hm : X.mg "range" = none) (ha : DA X [a] t) (hs : starEach [a] X.env = [(false, eval a X.env)] := by rfl) : DI X tg (.Call (.Name "range" p) [a] [] pos) (iR1 t) :=
  ⟨PI.imp (pi_range1 hg hm ha.pa hs) fun σ H R ⟨ρ, M, Q', rs, rm, q, po⟩ => ⟨ρ, M, _, rs, rm, q, fun vs ds H1 M1 s1 m1 r1 ⟨j, e, h1, h2, q1⟩ => by
    subst e
    obtain ⟨v, rfl, rv⟩ := rel1 r1
    exact ⟨j, by rw [rel_int rv], h2, h1, po _ _ _ H1 M1 s1 m1 q1 itok_range⟩⟩⟩
theorem di_range2 {a b : Expr} {t : WA} {p pos : Pos} (hg : Gl X "range") (hm : X.mg "range" = none) (ha : DA X [a, b] t) (hs : starEach [a, b] X.env = [(false, eval a X.env), (false, eval b X.env)] := by rfl) (hs2 : starEach [b] X.env = [(false, eval b X.env)] := by rfl) :
    DI X tg (.Call (.Name "range" p) [a, b] [] pos) (iR2 t) :=
  ⟨PI.imp (pi_range2 hg hm ha.pa hs hs2) fun σ H R ⟨ρ, M, Q', rs, rm, q, po⟩ => ⟨ρ, M, _, rs, rm, q, fun vs ds H1 M1 s1 m1 r1 ⟨i, j, e, h1, q1⟩ => by
    subst e
    obtain ⟨v, u, rfl, rv, ru⟩ := rel2 r1
    exact ⟨i, j, by rw [rel_int rv, rel_int ru], h1, po _ _ _ H1 M1 s1 m1 q1 itok_range⟩⟩⟩
theorem di_enumL {e : Expr} {t : WA} {p pos tpos : Pos} {elts : List Expr} {kk : Nat} (hg : Gl X "enumerate") (hm : X.mg "enumerate" = none) (ha : DA X [e] t) (hs : starEach [e] X.env = [(false, eval e X.env)] := by rfl) :
    DI X (.Tuple elts kk tpos) (.Call (.Name "enumerate" p) [e] [] pos) (iEnumL t) :=
  ⟨PI.imp (pi_enum hg hm ha.pa hs) fun σ H R ⟨ρ, M, Q', rs, rm, q, po⟩ => ⟨ρ, M, _, rs, rm, q, fun vs ds H1 M1 s1 m1 r1 ⟨a, xs, e, h1, q1⟩ => by
    subst e
    obtain ⟨v, rfl, rv⟩ := rel1 r1
    obtain ⟨ws, h, r⟩ := m1 a _ h1
    exact ⟨a, ws, by rw [rel_ref rv], .inl (.inl h), po _ _ _ H1 M1 s1 m1 q1 itok_enum⟩⟩⟩
theorem di_zip {e e2 : Expr} {t : WA} {p pos tpos : Pos} {elts : List Expr} {kk : Nat} (hg : Gl X "zip") (hm : X.mg "zip" = none) (ha : DA X [e, e2] t)
    (hs : starEach [e, e2] X.env = (false, eval e X.env) :: starEach [e2] X.env := by rfl) (hpl : (backTo pos (starEach [e2] X.env)).any (·.1) = false := by rfl) :
    DI X (.Tuple elts kk tpos) (.Call (.Name "zip" p) [e, e2] [] pos) (iZipW t) :=
  ⟨PI.imp (RZ.pi_zipA hg hm ha.pa hs hpl) fun σ H R ⟨ρ, M, Q', rs, rm, q, po⟩ => ⟨ρ, M, _, rs, rm, q, fun vs ds H1 M1 s1 m1 r1 q1 => by
    unfold iZipF at q1
    split at q1
    · obtain ⟨v, u, rfl, rv, ru⟩ := rel2 r1
      cases rv with
      | tup h1 g1 =>
        cases ru with
        | tup h2 g2 => exact ⟨_, _, _, _, rfl, .inr ⟨h1.sq, h2.sq, po _ _ _ H1 M1 s1 m1 q1 (itok_zipT h1 g1 h2 g2)⟩⟩
    · obtain ⟨v, u, rfl, rv, ru⟩ := rel2 r1
      obtain ⟨xs, ys, e1, e2, q1⟩ := q1
      obtain ⟨ws, h1, g1⟩ := m1 _ _ e1
      obtain ⟨zs, h2, g2⟩ := m1 _ _ e2
      exact ⟨_, _, ws, zs, by rw [rel_ref rv, rel_ref ru], .inl ⟨.inl (.inl h1), .inl (.inl h2), po _ _ _ H1 M1 s1 m1 q1 itok_zipL⟩⟩
    · exact q1.elim⟩⟩
end

/-! ### comprehensions -/
def wipeD (ρ : Sl) : List Nat → Sl
  | [] => ρ
  | v :: vs => (wipeD ρ vs).set v none
theorem RelS.unset {K : PySem.W.Frag} {H : Hp} {ρ : Sl} {σ : L2.St} (r : RelS K H ρ σ) (i : Nat) : RelS K H (ρ.set i none) (σ.set i none) := by
  refine ⟨by rw [List.length_set, List.length_set]; exact r.1, fun j e he => ?_⟩
  by_cases hj : i = j
  · subst hj
    by_cases hi : i < ρ.length
    · rw [List.getElem?_set_self hi] at he; cases he
    · rw [List.getElem?_eq_none (by rw [List.length_set]; omega)] at he; cases he
  · rw [List.getElem?_set_ne hj] at he
    obtain ⟨u, h1, h2⟩ := r.2 j e he
    exact ⟨u, by rw [List.getElem?_set_ne hj]; exact h1, h2⟩
theorem RelS.wipe {K : PySem.W.Frag} {H : Hp} {ρ : Sl} {σ : L2.St} (r : RelS K H ρ σ) : ∀ vs : List Nat, RelS K H (wipeD ρ vs) (wipe σ vs)
  | [] => r
  | v :: vs => (RelS.wipe r vs).unset v
theorem wipe_get {σ : L2.St} : ∀ (vs : List Nat) (i : Nat), (wipe σ vs)[i]? = if i ∈ vs then (if i < σ.length then some none else none) else σ[i]?
  | [], i => by simp [wipe]
  | v :: vs, i => by
    unfold wipe
    by_cases hv : v = i
    · subst hv
      rw [if_pos (List.mem_cons_self ..)]
      by_cases hl : v < σ.length
      · rw [List.getElem?_set_self (by rw [wipe_length]; exact hl), if_pos hl]
      · rw [List.getElem?_eq_none (by rw [List.length_set, wipe_length]; omega), if_neg hl]
    · rw [List.getElem?_set_ne hv, wipe_get vs i]
      by_cases hm : i ∈ vs
      · rw [if_pos hm, if_pos (List.mem_cons_of_mem _ hm)]
      · rw [if_neg hm, if_neg]
        simp only [List.mem_cons, not_or]; exact ⟨fun e => hv e.symm, hm⟩
theorem wipe_same {σ σ2 : L2.St} {vs sl : List Nat} (h : SlSame (wipe σ vs) σ2 sl) (hs : ∀ i ∈ sl, i ∈ vs) : wipe σ2 vs = wipe σ vs := by
  have hl : σ2.length = σ.length := by rw [h.1, wipe_length]
  apply List.ext_getElem?
  intro i
  rw [wipe_get, wipe_get]
  by_cases hi : i ∈ vs
  · rw [if_pos hi, if_pos hi, hl]
  · rw [if_neg hi, if_neg hi]
    have := h.2 i fun z => hi (hs i z)
    rw [this, wipe_get, if_neg hi]
def lcF (g : WG) (tt : WT) (te : WE) (stay : Mem → Prop) (ρ : Sl) (Q : D → Mem → Prop) : List D → List D → Mem → Prop
  | [], acc, M => stay M ∧ ∀ p, M p = none → Q (.ref p) (mupd M p (.lst acc))
  | x :: xs, acc, M => stay M ∧ g.f x ρ M fun ρ2 M2 => tt.f ρ2 M2 fun b M3 => (b = true → te.f ρ2 M3 fun y M4 => acc.length < sizeLine ∧ lcF g tt te stay ρ Q xs (acc ++ [y]) M4) ∧ (b = false → lcF g tt te stay ρ Q xs acc M3)
theorem lcF_mono {g : WG} {tt : WT} {te : WE} {stay : Mem → Prop} {ρ : Sl} {Q Q' : D → Mem → Prop} (h : ∀ d M, Q d M → Q' d M) : ∀ (xs acc : List D) (M : Mem), lcF g tt te stay ρ Q xs acc M → lcF g tt te stay ρ Q' xs acc M
  | [], _, _, q => ⟨q.1, fun p hp => h _ _ (q.2 p hp)⟩
  | x :: xs, acc, M, q => ⟨q.1, g.mono _ _ _ _ _ (fun ρ2 M2 q => tt.mono _ _ _ _ (fun b M3 q => ⟨fun e => te.mono _ _ _ _ (fun y M4 q => ⟨q.1, lcF_mono h xs _ _ q.2⟩) (q.1 e), fun e => lcF_mono h xs _ _ (q.2 e)⟩) q) q.2⟩
def wLc (wi : WI) (g : WG) (tt : WT) (te : WE) (vs : List Nat) : WE := ⟨fun ρ M Q => wi.f ρ M fun items stay M1 => lcF g tt te stay (wipeD ρ vs) Q items [] M1,
  fun ρ M Q Q' h q => wi.mono _ _ _ _ (fun ds st M q => lcF_mono h ds [] M q) q⟩
def wtYes : WT := ⟨fun _ M Q => Q true M, fun _ _ _ _ h q => h _ _ q⟩
/-- two clauses: the inner walk is made anew in each turn of the outer one -/
def lc2G (g1 : WG) (tt1 : WT) (te : WE) (stay : Mem → Prop) (ρ : Sl) (N : List D → Mem → Prop) : List D → List D → Mem → Prop
  | [], acc, M => stay M ∧ N acc M
  | x :: xs, acc, M => stay M ∧ g1.f x ρ M fun ρ2 M2 => tt1.f ρ2 M2 fun b M3 => (b = true → te.f ρ2 M3 fun y M4 => acc.length < sizeLine ∧ lc2G g1 tt1 te stay ρ N xs (acc ++ [y]) M4) ∧ (b = false → lc2G g1 tt1 te stay ρ N xs acc M3)
theorem lc2G_mono {g : WG} {tt : WT} {te : WE} {stay : Mem → Prop} {ρ : Sl} {N N' : List D → Mem → Prop} (h : ∀ d M, N d M → N' d M) : ∀ (xs acc : List D) (M : Mem), lc2G g tt te stay ρ N xs acc M → lc2G g tt te stay ρ N' xs acc M
  | [], _, _, q => ⟨q.1, h _ _ q.2⟩
  | x :: xs, acc, M, q => ⟨q.1, g.mono _ _ _ _ _ (fun ρ2 M2 q => tt.mono _ _ _ _ (fun b M3 q => ⟨fun e => te.mono _ _ _ _ (fun y M4 q => ⟨q.1, lc2G_mono h xs _ _ q.2⟩) (q.1 e), fun e => lc2G_mono h xs _ _ (q.2 e)⟩) q) q.2⟩
def lc2F (g : WG) (tt : WT) (wi1 : WI) (g1 : WG) (tt1 : WT) (te : WE) (vs1 : List Nat) (stay : Mem → Prop) (ρ : Sl) (Q : D → Mem → Prop) : List D → List D → Mem → Prop
  | [], acc, M => stay M ∧ ∀ p, M p = none → Q (.ref p) (mupd M p (.lst acc))
  | x :: xs, acc, M => stay M ∧ g.f x ρ M fun ρ2 M2 => tt.f ρ2 M2 fun b M3 => (b = true → wi1.f ρ2 M3 fun items1 stay1 M4 => lc2G g1 tt1 te stay1 (wipeD ρ2 vs1) (fun acc M => lc2F g tt wi1 g1 tt1 te vs1 stay ρ Q xs acc M) items1 acc M4) ∧ (b = false → lc2F g tt wi1 g1 tt1 te vs1 stay ρ Q xs acc M3)
theorem lc2F_mono {g : WG} {tt : WT} {wi1 : WI} {g1 : WG} {tt1 : WT} {te : WE} {vs1 : List Nat} {stay : Mem → Prop} {ρ : Sl} {Q Q' : D → Mem → Prop} (h : ∀ d M, Q d M → Q' d M) : ∀ (xs acc : List D) (M : Mem), lc2F g tt wi1 g1 tt1 te vs1 stay ρ Q xs acc M → lc2F g tt wi1 g1 tt1 te vs1 stay ρ Q' xs acc M
  | [], _, _, q => ⟨q.1, fun p hp => h _ _ (q.2 p hp)⟩
  | x :: xs, acc, M, q => ⟨q.1, g.mono _ _ _ _ _ (fun ρ2 M2 q => tt.mono _ _ _ _ (fun b M3 q => ⟨fun e => wi1.mono _ _ _ _ (fun ds st M q => lc2G_mono (fun acc M q => lc2F_mono h xs acc M q) ds acc M q) (q.1 e), fun e => lc2F_mono h xs _ _ (q.2 e)⟩) q) q.2⟩
def wLc2 (wi : WI) (g : WG) (tt : WT) (wi1 : WI) (g1 : WG) (tt1 : WT) (te : WE) (vs vs1 : List Nat) : WE := ⟨fun ρ M Q => wi.f ρ M fun items stay M1 => lc2F g tt wi1 g1 tt1 te vs1 stay (wipeD ρ vs) Q items [] M1,
  fun ρ M Q Q' h q => wi.mono _ _ _ _ (fun ds st M q => lc2F_mono h ds [] M q) q⟩
section
variable {P : Program} {w : World} {K : PySem.W.Frag}
/-- a tracked object that M does not know stands -/
theorem Step.hid {H H' : Hp} {M M' : Mem} (s : Step H M H' M') {a : Addr} {o : HO} (h : H a = some o) (m : M a = none) : H' a = some o ∧ M' a = none := s a o h m
theorem RelM.hidW {H : Hp} {M : Mem} (R : RelM P w K H M) {a : Addr} {o u : HO} (h : H a = some o) (m : M a = none) (mu : Mut (some o)) : RelM P w K (upd H a u) M ∧ Keep H (upd H a u) := by
  have k : Keep H (upd H a u) := by
    refine ⟨fun b xs e => ?_, fun b ob x e => ?_⟩
    · rw [upd_ne]; exact e
      intro z; subst z; rw [h] at e; cases e; exact mu
    · rw [upd_ne]; exact e
      intro z; subst z; rw [h] at e; cases e; exact mu
  exact ⟨fun b o' e => RelO.step R k (R b o' e) (fun c hc => upd_ne fun z => hc (by rw [z]; exact m)) e fun _ _ h => h, k⟩
theorem lc_imp {wi : WI} {g : WG} {tt : WT} {te : WE} {vs : List Nat} (hsl : ∀ i ∈ g.sl, i ∈ vs) (σ : L2.St) (H : Hp) (Q : VK) (h : lE P w K (wLc wi g tt te vs) σ H Q) : tLc (lI P w K wi) (lG P w K g) (lT P w K tt) (lE P w K te) vs σ H Q := by
  obtain ⟨ρ, M, Q', rs, rm, q, po⟩ := h
  refine ⟨ρ, M, _, rs, rm, q, fun J items stay H1 M1 s1 m1 q1 ok Dd hD => ?_⟩
  -- the new list is tracked, M does not know it
  refine ⟨fun i m H2 => i + m = items.length ∧ ∃ M2 acc vacc, H2 Dd = some (.lst vacc) ∧ M2 Dd = none ∧ RelDs K H2 acc vacc ∧ Step H1 M1 H2 M2 ∧ RelM P w K H2 M2 ∧ lcF g tt te stay (wipeD ρ vs) Q' (items.drop i) acc M2,
    ⟨items.length, by omega, M1, [], [], upd_same, m1.free hD, .nil, Step.beside hD, m1.beside hD, by rw [List.drop_zero]; exact q1⟩, ?_⟩
  rintro i m H2 ⟨hm, M2, acc, vacc, hDd, hMd, racc, s2, m2, q2⟩
  by_cases hi : i < items.length
  · right
    rw [List.drop_eq_getElem_cons hi] at q2
    obtain ⟨sy, q2⟩ := q2
    obtain ⟨_, k2⟩ := ok i H2 M2 (s2.keep m1) m2 sy
    obtain ⟨go, yl⟩ := k2 _ (List.getElem?_eq_getElem hi)
    refine ⟨go, fun H' => ∃ M' acc vacc, H' Dd = some (.lst vacc) ∧ M' Dd = none ∧ RelDs K H' acc vacc ∧ Step H1 M1 H' M' ∧ RelM P w K H' M' ∧ lcF g tt te stay (wipeD ρ vs) Q' (items.drop (i + 1)) acc M', fun H' h => ⟨m - 1, by omega, by omega, h⟩, fun x H' hy => ?_⟩
    obtain ⟨s3, m3, r3⟩ := yl x H' hy
    have rsw := (rs.keep ((s1.trans (s2.trans s3)).keep rm)).wipe vs
    refine ⟨_, wipeD ρ vs, M2, _, r3, rsw, m3, q2, fun σ4 ρ4 H4 M4 s4 m4 r4 ss4 q4 => ⟨wipe_same ss4 hsl, ρ4, M4, _, r4, m4, q4, fun b H5 M5 s5 m5 q5 => ?_⟩⟩
    have s25 := s3.trans (s4.trans s5)
    obtain ⟨hD5, hM5⟩ := s25 Dd _ hDd hMd
    cases b with
    | false => exact iteF ⟨M5, acc, vacc, hD5, hM5, racc.keep (s25.keep m2), s2.trans s25, m5, q5.2 rfl⟩
    | true =>
      refine iteT ⟨ρ4, M5, _, r4.keep (s5.keep m4), m5, q5.1 rfl, fun v d H6 M6 s6 m6 r6 q6 => ?_⟩
      have s26 := s25.trans s6
      obtain ⟨hD6, hM6⟩ := s26 Dd _ hDd hMd
      have racc6 := racc.keep (s26.keep m2)
      refine ⟨vacc, hD6, by rw [← racc.length]; exact q6.1, M6, acc ++ [d], vacc ++ [v], upd_same, hM6, ?_, ?_, ?_, q6.2⟩
      · exact (racc6.append (.cons r6 .nil)).keep (m6.hidW hD6 hM6 trivial).2
      · intro a o ha hma
        obtain ⟨h1, h2⟩ := (s2.trans s26) a o ha hma
        have ne : a ≠ Dd := fun z => by subst z; rw [hD] at ha; cases ha
        exact ⟨by rw [upd_ne ne]; exact h1, h2⟩
      · exact (m6.hidW hD6 hM6 trivial).1
  · left
    rw [List.drop_of_length_le (by omega)] at q2
    obtain ⟨sy, q2⟩ := q2
    refine ⟨(ok i H2 M2 (s2.keep m1) m2 sy).1 (by omega), po (.ref Dd) (.ref Dd) H2 (mupd M2 Dd (.lst acc)) ?_ ?_ (.ref Dd) (q2 Dd hMd)⟩
    · intro a o ha hma
      obtain ⟨h1, h2⟩ := s1 a o ha hma
      obtain ⟨h3, h4⟩ := s2 a o h1 h2
      have ne : a ≠ Dd := fun z => by subst z; rw [hD] at h1; cases h1
      exact ⟨h3, by rw [mupd_ne ne]; exact h4⟩
    · intro a o ha
      by_cases e : a = Dd
      · subst e; rw [mupd_same] at ha; cases ha; exact ⟨vacc, hDd, racc⟩
      · rw [mupd_ne e] at ha
        exact RelO.step m2 ⟨fun _ _ h => h, fun _ _ _ h => h⟩ (m2 a o ha) (fun _ _ => rfl) ha fun b _ hb => by
          rw [mupd_ne (fun z => by rw [z, hMd] at hb; cases hb)]; exact hb
theorem lc2_imp {wi wi1 : WI} {g g1 : WG} {tt tt1 : WT} {te : WE} {vs vs1 : List Nat} (hsl : ∀ i ∈ g.sl, i ∈ vs) (hsl1 : ∀ i ∈ g1.sl, i ∈ vs1) (σ : L2.St) (H : Hp) (Q : VK) (h : lE P w K (wLc2 wi g tt wi1 g1 tt1 te vs vs1) σ H Q) :
    tLc2 (lI P w K wi) (lG P w K g) (lT P w K tt) (lI P w K wi1) (lG P w K g1) (lT P w K tt1) (lE P w K te) vs vs1 σ H Q := by
  obtain ⟨ρ, M, Q', rs, rm, q, po⟩ := h
  refine ⟨ρ, M, _, rs, rm, q, fun J items stay H1 M1 s1 m1 q1 ok Dd hD => ?_⟩
  refine ⟨fun i m H2 => i + m = items.length ∧ ∃ M2 acc vacc, H2 Dd = some (.lst vacc) ∧ M2 Dd = none ∧ RelDs K H2 acc vacc ∧ Step H1 M1 H2 M2 ∧ RelM P w K H2 M2 ∧ lc2F g tt wi1 g1 tt1 te vs1 stay (wipeD ρ vs) Q' (items.drop i) acc M2,
    ⟨items.length, by omega, M1, [], [], upd_same, m1.free hD, .nil, Step.beside hD, m1.beside hD, by rw [List.drop_zero]; exact q1⟩, ?_⟩
  rintro i m H2 ⟨hm, M2, acc, vacc, hDd, hMd, racc, s2, m2, q2⟩
  by_cases hi : i < items.length
  · right
    rw [List.drop_eq_getElem_cons hi] at q2
    obtain ⟨sy, q2⟩ := q2
    obtain ⟨_, k2⟩ := ok i H2 M2 (s2.keep m1) m2 sy
    obtain ⟨go, yl⟩ := k2 _ (List.getElem?_eq_getElem hi)
    refine ⟨go, fun H' => ∃ M' acc vacc, H' Dd = some (.lst vacc) ∧ M' Dd = none ∧ RelDs K H' acc vacc ∧ Step H1 M1 H' M' ∧ RelM P w K H' M' ∧ lc2F g tt wi1 g1 tt1 te vs1 stay (wipeD ρ vs) Q' (items.drop (i + 1)) acc M', fun H' h => ⟨m - 1, by omega, by omega, h⟩, fun x H' hy => ?_⟩
    obtain ⟨s3, m3, r3⟩ := yl x H' hy
    have rsw := (rs.keep ((s1.trans (s2.trans s3)).keep rm)).wipe vs
    refine ⟨_, wipeD ρ vs, M2, _, r3, rsw, m3, q2, fun σ4 ρ4 H4 M4 s4 m4 r4 ss4 q4 => ⟨wipe_same ss4 hsl, ρ4, M4, _, r4, m4, q4, fun b H5 M5 s5 m5 q5 => ?_⟩⟩
    have s25 := s3.trans (s4.trans s5)
    obtain ⟨hD5, hM5⟩ := s25 Dd _ hDd hMd
    cases b with
    | false => exact iteF ⟨M5, acc, vacc, hD5, hM5, racc.keep (s25.keep m2), s2.trans s25, m5, q5.2 rfl⟩
    | true =>
      refine iteT ⟨ρ4, M5, _, r4.keep (s5.keep m4), m5, q5.1 rfl, fun J1 items1 stay1 H6 M6 s6 m6 q6 ok1 => ?_⟩
      have s26 := s25.trans s6
      obtain ⟨hD6, hM6⟩ := s26 Dd _ hDd hMd
      refine ⟨fun j k H7 => j + k = items1.length ∧ ∃ M7 acc vacc, H7 Dd = some (.lst vacc) ∧ M7 Dd = none ∧ RelDs K H7 acc vacc ∧ Step H1 M1 H7 M7 ∧ Keep H6 H7 ∧ RelM P w K H7 M7 ∧ lc2G g1 tt1 te stay1 (wipeD ρ4 vs1) (fun acc M => lc2F g tt wi1 g1 tt1 te vs1 stay (wipeD ρ vs) Q' (items.drop (i + 1)) acc M) (items1.drop j) acc M7,
        ⟨items1.length, by omega, M6, acc, vacc, hD6, hM6, racc.keep (s26.keep m2), s2.trans s26, ⟨fun _ _ h => h, fun _ _ _ h => h⟩, m6, by rw [List.drop_zero]; exact q6⟩, ?_⟩
      rintro j k H7 ⟨hk, M7, acc7, vacc7, hD7, hM7, racc7, s7, k7, m7, q7⟩
      by_cases hj : j < items1.length
      · right
        rw [List.drop_eq_getElem_cons hj] at q7
        obtain ⟨sy7, q7⟩ := q7
        obtain ⟨_, ky⟩ := ok1 j H7 M7 k7 m7 sy7
        obtain ⟨go1, yl1⟩ := ky _ (List.getElem?_eq_getElem hj)
        refine ⟨go1, fun H' => ∃ M7 acc vacc, H' Dd = some (.lst vacc) ∧ M7 Dd = none ∧ RelDs K H' acc vacc ∧ Step H1 M1 H' M7 ∧ Keep H6 H' ∧ RelM P w K H' M7 ∧ lc2G g1 tt1 te stay1 (wipeD ρ4 vs1) (fun acc M => lc2F g tt wi1 g1 tt1 te vs1 stay (wipeD ρ vs) Q' (items.drop (i + 1)) acc M) (items1.drop (j + 1)) acc M7, fun H' h => ⟨k - 1, by omega, by omega, h⟩, fun y H8 hy => ?_⟩
        obtain ⟨s8, m8, r8⟩ := yl1 y H8 hy
        have k68 : Keep H6 H8 := ⟨fun a xs h => (s8.keep m7).1 a xs (k7.1 a xs h), fun a o u h => (s8.keep m7).2 a o u (k7.2 a o u h)⟩
        have rsw1 := ((r4.keep (s5.keep m4)).keep (s6.keep m5) |>.keep k68).wipe vs1
        refine ⟨_, wipeD ρ4 vs1, M7, _, r8, rsw1, m8, q7, fun σ9 ρ9 H9 M9 s9 m9 r9 ss9 q9 => ⟨wipe_same ss9 hsl1, ρ9, M9, _, r9, m9, q9, fun b HA MA sA mA qA => ?_⟩⟩
        have s7A := s8.trans (s9.trans sA)
        obtain ⟨hDA, hMA⟩ := s7A Dd _ hD7 hM7
        have k6A : Keep H6 HA := ⟨fun a xs h => (s7A.keep m7).1 a xs (k7.1 a xs h), fun a o u h => (s7A.keep m7).2 a o u (k7.2 a o u h)⟩
        cases b with
        | false => exact iteF ⟨MA, acc7, vacc7, hDA, hMA, racc7.keep (s7A.keep m7), s7.trans s7A, k6A, mA, qA.2 rfl⟩
        | true =>
          refine iteT ⟨ρ9, MA, _, r9.keep (sA.keep m9), mA, qA.1 rfl, fun v d HB MB sB mB rB qB => ?_⟩
          have s7B := s7A.trans sB
          obtain ⟨hDB, hMB⟩ := s7B Dd _ hD7 hM7
          have raccB := racc7.keep (s7B.keep m7)
          have kW := (mB.hidW (u := .lst (vacc7 ++ [v])) hDB hMB trivial)
          refine ⟨vacc7, hDB, by rw [← racc7.length]; exact qB.1, MB, acc7 ++ [d], vacc7 ++ [v], upd_same, hMB, (raccB.append (.cons rB .nil)).keep kW.2, ?_, ?_, kW.1, qB.2⟩
          · intro a o ha hma
            obtain ⟨h1, h2⟩ := (s7.trans s7B) a o ha hma
            have ne : a ≠ Dd := fun z => by subst z; rw [hD] at ha; cases ha
            exact ⟨by rw [upd_ne ne]; exact h1, h2⟩
          · have kB := s7B.keep m7
            exact ⟨fun a xs h => kW.2.1 a xs (kB.1 a xs (k7.1 a xs h)), fun a o u h => kW.2.2 a o u (kB.2 a o u (k7.2 a o u h))⟩
      · left
        rw [List.drop_of_length_le (show items1.length ≤ j by omega)] at q7
        obtain ⟨sy7, q7⟩ := q7
        exact ⟨(ok1 j H7 M7 k7 m7 sy7).1 (by omega), M7, acc7, vacc7, hD7, hM7, racc7, s7, m7, q7⟩
  · left
    rw [List.drop_of_length_le (by omega)] at q2
    obtain ⟨sy, q2⟩ := q2
    refine ⟨(ok i H2 M2 (s2.keep m1) m2 sy).1 (by omega), po (.ref Dd) (.ref Dd) H2 (mupd M2 Dd (.lst acc)) ?_ ?_ (.ref Dd) (q2 Dd hMd)⟩
    · intro a o ha hma
      obtain ⟨h1, h2⟩ := s1 a o ha hma
      obtain ⟨h3, h4⟩ := s2 a o h1 h2
      have ne : a ≠ Dd := fun z => by subst z; rw [hD] at h1; cases h1
      exact ⟨h3, by rw [mupd_ne ne]; exact h4⟩
    · intro a o ha
      by_cases e : a = Dd
      · subst e; rw [mupd_same] at ha; cases ha; exact ⟨vacc, hDd, racc⟩
      · rw [mupd_ne e] at ha
        exact RelO.step m2 ⟨fun _ _ h => h, fun _ _ _ h => h⟩ (m2 a o ha) (fun _ _ => rfl) ha fun b _ hb => by
          rw [mupd_ne (fun z => by rw [z, hMd] at hb; cases hb)]; exact hb
end
/-! ### their rules -/
structure DTs (X : Cx) (ifs : List Expr) (t : WT) : Prop where
  pts : PTs X ifs (lT X.prog X.w X.K t)
theorem PTs.imp {X : Cx} {e : List Expr} {t u : TT} (h : PTs X e t) (i : ∀ σ H Q, u σ H Q → t σ H Q) : PTs X e u := ⟨fun pins s σ H Q I q => h.run pins s σ H Q I (i _ _ _ q)⟩
section
variable {X : Cx}
theorem dts_nil : DTs X [] wtYes := ⟨PTs.imp pts_nil fun σ H Q ⟨ρ, M, Q', rs, rm, q, po⟩ => po true H M Step.refl rm q⟩
theorem dts_one {c : Expr} {t : WT} (h : DT X c t) : DTs X [c] t := ⟨pts_one h.pt⟩
theorem de_lc {elt tg iter : Expr} {ifs : List Expr} {scope : Scope} {own : List (Str × Nat)} {pos : Pos} {wi : WI} {g : WG} {tt : WT} {te : WE} (hc : X.calm = true) (hN : X.N.Nodup) (hi : DI X tg iter wi) (ok : BlkOk X.N X.env.scope scope own)
    (hg : ∀ (s : Shared) (H : Hp) (C : Addr) (cl : List (Str × Addr)) (fp : List Addr), DG (X.blk s H scope (compEnvC scope cl C X.env) fp) tg g) (ht : ∀ (s : Shared) (H : Hp) (C : Addr) (cl : List (Str × Addr)) (fp : List Addr), DTs (X.blk s H scope (compEnvC scope cl C X.env) fp) ifs tt)
    (he : ∀ (s : Shared) (H : Hp) (C : Addr) (cl : List (Str × Addr)) (fp : List Addr), DE (X.blk s H scope (compEnvC scope cl C X.env) fp) elt te) (hsl : ∀ i ∈ g.sl, i ∈ own.map (·.2) := by decide) (hs : ∀ x, foldedSetIterable iter X.env x = pure x := by intro _; rfl) :
    DE X (.ListComp elt [⟨tg, iter, ifs, 0⟩] scope pos) (wLc wi g tt te (own.map (·.2))) :=
  ⟨PE.imp (pe_lc hc hN hi.pi ok (fun s H C cl fp => (hg s H C cl fp).pg) (fun s H C cl fp => (ht s H C cl fp).pts) (fun s H C cl fp => (he s H C cl fp).pe) hs) (lc_imp hsl)⟩
theorem de_lc2 {elt tg iter tg1 iter1 : Expr} {ifs ifs1 : List Expr} {scope : Scope} {own : List (Str × Nat)} {vs1 : List Nat} {pos : Pos} {wi wi1 : WI} {g g1 : WG} {tt tt1 : WT} {te : WE} (hc : X.calm = true) (hN : X.N.Nodup) (hi : DI X tg iter wi) (ok : BlkOk X.N X.env.scope scope own) (hv : ∀ i ∈ vs1, i ∈ own.map (·.2))
    (hg : ∀ (s : Shared) (H : Hp) (C : Addr) (cl : List (Str × Addr)) (fp : List Addr), DG (X.blk s H scope (compEnvC scope cl C X.env) fp) tg g) (ht : ∀ (s : Shared) (H : Hp) (C : Addr) (cl : List (Str × Addr)) (fp : List Addr), DTs (X.blk s H scope (compEnvC scope cl C X.env) fp) ifs tt)
    (hi1 : ∀ (s : Shared) (H : Hp) (C : Addr) (cl : List (Str × Addr)) (fp : List Addr), DI (X.blk s H scope (compEnvC scope cl C X.env) fp) tg1 iter1 wi1)
    (hg1 : ∀ (s : Shared) (H : Hp) (C : Addr) (cl : List (Str × Addr)) (fp : List Addr), DG (X.blk s H scope (compEnvC scope cl C X.env) fp) tg1 g1) (ht1 : ∀ (s : Shared) (H : Hp) (C : Addr) (cl : List (Str × Addr)) (fp : List Addr), DTs (X.blk s H scope (compEnvC scope cl C X.env) fp) ifs1 tt1)
    (he : ∀ (s : Shared) (H : Hp) (C : Addr) (cl : List (Str × Addr)) (fp : List Addr), DE (X.blk s H scope (compEnvC scope cl C X.env) fp) elt te) (hsl : ∀ i ∈ g.sl, i ∈ own.map (·.2) := by decide) (hsl1 : ∀ i ∈ g1.sl, i ∈ vs1 := by decide) (hs : ∀ x, foldedSetIterable iter X.env x = pure x := by intro _; rfl) (hs1 : ∀ env x, foldedSetIterable iter1 env x = pure x := by intro _ _; rfl) :
    DE X (.ListComp elt [⟨tg, iter, ifs, 0⟩, ⟨tg1, iter1, ifs1, 0⟩] scope pos) (wLc2 wi g tt wi1 g1 tt1 te (own.map (·.2)) vs1) :=
  ⟨PE.imp (pe_lc2 hc hN hi.pi ok hv (fun s H C cl fp => (hg s H C cl fp).pg) (fun s H C cl fp => (ht s H C cl fp).pts) (fun s H C cl fp => (hi1 s H C cl fp).pi) (fun s H C cl fp => (hg1 s H C cl fp).pg) (fun s H C cl fp => (ht1 s H C cl fp).pts) (fun s H C cl fp => (he s H C cl fp).pe) hs hs1) (lc2_imp hsl hsl1)⟩
/-- name = [..] on one line -/
theorem ds_setLc {i : Nat} {y : Str} {py : Pos} {elt tg iter : Expr} {ifs : List Expr} {scope : Scope} {own : List (Str × Nat)} {pos spos : Pos} {wi : WI} {g : WG} {tt : WT} {te : WE} (hc : X.calm = true) (hN : X.N.Nodup) (hy : X.N[i]? = some y) (hyl : X.env.scope.names.lookup y = some .local)
    (hsw : swapsWith (.ListComp elt [⟨tg, iter, ifs, 0⟩] scope pos) (some (.Name y py)) spos.line X.env = pure true) (hi : DI X tg iter wi) (ok : BlkOk X.N X.env.scope scope own)
    (hg : ∀ (s : Shared) (H : Hp) (C : Addr) (cl : List (Str × Addr)) (fp : List Addr), DG (X.blk s H scope (compEnvC scope cl C X.env) fp) tg g) (ht : ∀ (s : Shared) (H : Hp) (C : Addr) (cl : List (Str × Addr)) (fp : List Addr), DTs (X.blk s H scope (compEnvC scope cl C X.env) fp) ifs tt)
    (he : ∀ (s : Shared) (H : Hp) (C : Addr) (cl : List (Str × Addr)) (fp : List Addr), DE (X.blk s H scope (compEnvC scope cl C X.env) fp) elt te) (hsl : ∀ i ∈ g.sl, i ∈ own.map (·.2) := by decide) (hs : ∀ x, foldedSetIterable iter X.env x = pure x := by intro _; rfl) :
    DS X (.Assign [.Name y py] (.ListComp elt [⟨tg, iter, ifs, 0⟩] scope pos) spos) (sAsg (wLc wi g tt te (own.map (·.2))) (gN i)) :=
  ⟨PS.imp (ps_setLc hc hN hy hyl hsw hi.pi ok (fun s H C cl fp => (hg s H C cl fp).pg) (fun s H C cl fp => (ht s H C cl fp).pts) (fun s H C cl fp => (he s H C cl fp).pe) hs) fun D σ H ⟨ρ, M, A, rs, rm, q, po⟩ =>
    lc_imp hsl σ H _ ⟨ρ, M, _, rs, rm, q, fun v d H1 M1 s1 m1 r1 q1 => po.nx _ _ H1 M1 s1 m1 ((rs.keep (s1.keep rm)).set i r1) q1⟩⟩
theorem ds_setLc2 {i : Nat} {y : Str} {py : Pos} {elt tg iter tg1 iter1 : Expr} {ifs ifs1 : List Expr} {scope : Scope} {own : List (Str × Nat)} {vs1 : List Nat} {pos spos : Pos} {wi wi1 : WI} {g g1 : WG} {tt tt1 : WT} {te : WE} (hc : X.calm = true) (hN : X.N.Nodup) (hy : X.N[i]? = some y) (hyl : X.env.scope.names.lookup y = some .local)
    (hsw : swapsWith (.ListComp elt [⟨tg, iter, ifs, 0⟩, ⟨tg1, iter1, ifs1, 0⟩] scope pos) (some (.Name y py)) spos.line X.env = pure true) (hi : DI X tg iter wi) (ok : BlkOk X.N X.env.scope scope own) (hv : ∀ i ∈ vs1, i ∈ own.map (·.2))
    (hg : ∀ (s : Shared) (H : Hp) (C : Addr) (cl : List (Str × Addr)) (fp : List Addr), DG (X.blk s H scope (compEnvC scope cl C X.env) fp) tg g) (ht : ∀ (s : Shared) (H : Hp) (C : Addr) (cl : List (Str × Addr)) (fp : List Addr), DTs (X.blk s H scope (compEnvC scope cl C X.env) fp) ifs tt)
    (hi1 : ∀ (s : Shared) (H : Hp) (C : Addr) (cl : List (Str × Addr)) (fp : List Addr), DI (X.blk s H scope (compEnvC scope cl C X.env) fp) tg1 iter1 wi1)
    (hg1 : ∀ (s : Shared) (H : Hp) (C : Addr) (cl : List (Str × Addr)) (fp : List Addr), DG (X.blk s H scope (compEnvC scope cl C X.env) fp) tg1 g1) (ht1 : ∀ (s : Shared) (H : Hp) (C : Addr) (cl : List (Str × Addr)) (fp : List Addr), DTs (X.blk s H scope (compEnvC scope cl C X.env) fp) ifs1 tt1)
    (he : ∀ (s : Shared) (H : Hp) (C : Addr) (cl : List (Str × Addr)) (fp : List Addr), DE (X.blk s H scope (compEnvC scope cl C X.env) fp) elt te) (hsl : ∀ i ∈ g.sl, i ∈ own.map (·.2) := by decide) (hsl1 : ∀ i ∈ g1.sl, i ∈ vs1 := by decide) (hs : ∀ x, foldedSetIterable iter X.env x = pure x := by intro _; rfl) (hs1 : ∀ env x, foldedSetIterable iter1 env x = pure x := by intro _ _; rfl) :
    DS X (.Assign [.Name y py] (.ListComp elt [⟨tg, iter, ifs, 0⟩, ⟨tg1, iter1, ifs1, 0⟩] scope pos) spos) (sAsg (wLc2 wi g tt wi1 g1 tt1 te (own.map (·.2)) vs1) (gN i)) :=
  ⟨PS.imp (ps_setLc2 hc hN hy hyl hsw hi.pi ok hv (fun s H C cl fp => (hg s H C cl fp).pg) (fun s H C cl fp => (ht s H C cl fp).pts) (fun s H C cl fp => (hi1 s H C cl fp).pi) (fun s H C cl fp => (hg1 s H C cl fp).pg) (fun s H C cl fp => (ht1 s H C cl fp).pts) (fun s H C cl fp => (he s H C cl fp).pe) hs hs1) fun D σ H ⟨ρ, M, A, rs, rm, q, po⟩ =>
    lc2_imp hsl hsl1 σ H _ ⟨ρ, M, _, rs, rm, q, fun v d H1 M1 s1 m1 r1 q1 => po.nx _ _ H1 M1 s1 m1 ((rs.keep (s1.keep rm)).set i r1) q1⟩⟩
end
end MP

namespace MP
open PySem PySem.Spec PyProof.Rows L2

/-! ### dicts by their entries -/
/-- what stands at the key d -/
def dgetD (kvs : List (D × D)) (d : D) : Option D := (kvs.find? fun p => decide (p.1.key = d.key)).map (·.2)
/-- a key that these entries can be asked for -/
def keyOk (kvs : List (D × D)) (d : D) : Prop := (d.pkey.isSome = true ∧ ∀ p ∈ kvs, p.1.pkey.isSome = true) ∨ (d.isTup = true ∧ (∀ p ∈ kvs, p.1.isTup = true) ∧ ∃ k, d.key = some k ∧ k.depth ≤ 8)
/-- the entries behind d[key] = x -/
def dputD (kvs : List (D × D)) (d x : D) : List (D × D) := if kvs.any (fun p => decide (p.1.key = d.key)) then kvs.map (fun p => if p.1.key = d.key then (p.1, x) else p) else kvs ++ [(d, x)]
theorem pkey_eq {a b : D} {k j : Key} (ha : a.pkey = some k) (hb : b.pkey = some j) : decide (a.key = b.key) = decide (k = j) := by
  cases a <;> simp [D.pkey] at ha <;> cases b <;> simp [D.pkey] at hb <;> subst ha <;> subst hb <;> simp [D.key]
theorem pkey_rel {K : PySem.W.Frag} {H : Hp} {d : D} {k : Key} {v : V} (h : d.pkey = some k) (r : RelD K H d v) : v = kV k := by
  cases r <;> simp [D.pkey] at h <;> subst h <;> rfl
theorem pkey_notTup {d : D} {k : Key} (h : d.pkey = some k) : d.isTup = false := by cases d <;> simp [D.pkey] at h <;> rfl
section
variable {K : PySem.W.Frag} {H : Hp}
theorem valV_rel : ∀ {kvs : List (D × D)} {L : List (Key × V)} {d : D} {k : Key}, d.pkey = some k → kvs.map (fun p => p.1.pkey) = L.map (fun p => some p.1) → RelDs K H (kvs.map (·.2)) (L.map (·.2)) →
    (dgetD kvs d = none → valV L k = none) ∧ ∀ x, dgetD kvs d = some x → ∃ v, valV L k = some v ∧ RelD K H x v
  | [], [], d, k, _, _, _ => ⟨fun _ => rfl, fun x h => by simp [dgetD] at h⟩
  | [], _ :: _, _, _, _, h, _ => by simp at h
  | _ :: _, [], _, _, _, h, _ => by simp at h
  | p :: kvs, q :: L, d, k, hd, h, r => by
    rw [List.map_cons, List.map_cons] at h
    injection h with h1 h2
    cases r with
    | cons r1 r2 =>
      have e := pkey_eq h1 hd
      by_cases he : q.1 = k
      · rw [decide_eq_true he] at e
        refine ⟨fun z => ?_, fun x z => ?_⟩
        · rw [dgetD, List.find?_cons, e] at z; cases z
        · rw [dgetD, List.find?_cons, e] at z
          cases z
          exact ⟨q.2, valV_pos he, r1⟩
      · rw [decide_eq_false he] at e
        have ih := valV_rel hd h2 r2
        refine ⟨fun z => ?_, fun x z => ?_⟩
        · rw [dgetD, List.find?_cons, e] at z
          rw [valV_neg he]; exact ih.1 z
        · rw [dgetD, List.find?_cons, e] at z
          rw [valV_neg he]; exact ih.2 x z
end

mutual
theorem nestedOf {h : Heap} : ∀ (d : D) (k : NestedKey) (v : Value) (as : List Addr), d.key = some k → Reads h v d.py as → NestedIs h k v
  | .non, k, v, as, e, r => by
    simp only [D.key] at e; cases e; simp only [D.py] at r; cases r; exact .none
  | .bl b, k, v, as, e, r => by
    simp only [D.key] at e; cases e; simp only [D.py] at r; cases r; exact .bool rfl
  | .int i, k, v, as, e, r => by
    simp only [D.key] at e; cases e; simp only [D.py] at r; cases r; exact .int _ _
  | .str x, k, v, as, e, r => by
    simp only [D.key] at e; cases e; simp only [D.py] at r; cases r; exact .text _ _
  | .tup xs, k, v, as, e, r => by
    simp only [D.key] at e
    obtain ⟨ks, e1, e2⟩ := Option.map_eq_some_iff.mp e
    subst e2
    simp only [D.py] at r
    cases r with
    | tuple h1 h2 h3 h4 => exact .tup h1 h2 h3 (nestedAll xs ks _ _ e1 h4)
  | .ref _, _, _, _, e, _ => by simp [D.key] at e
  | .ty _, _, _, _, e, _ => by simp [D.key] at e
  | .fl _, _, _, _, e, _ => by simp [D.key] at e
theorem nestedAll {h : Heap} : ∀ (ds : List D) (ks : List NestedKey) (vs : List Value) (as : List Addr), D.keys ds = some ks → ReadsAll h vs (D.pys ds) as → NestedAll h ks vs
  | [], ks, vs, as, e, r => by
    simp only [D.keys] at e; cases e; simp only [D.pys] at r; cases r; exact .nil
  | d :: ds, ks, vs, as, e, r => by
    simp only [D.keys] at e
    split at e
    · rename_i k ks' e1 e2
      cases e
      simp only [D.pys] at r
      cases r with
      | cons r1 r2 => exact .cons (nestedOf d k _ _ e1 r1) (nestedAll ds ks' _ _ e2 r2)
    · cases e
end
mutual
theorem key_pl : ∀ (d : D) (k : NestedKey), d.key = some k → d.pl
  | .non, _, _ => rfl
  | .bl _, _, _ => rfl
  | .int _, _, _ => rfl
  | .str _, _, _ => rfl
  | .tup xs, k, e => by
    simp only [D.key] at e
    obtain ⟨ks, e1, e2⟩ := Option.map_eq_some_iff.mp e
    have := keys_pl xs ks e1
    simp only [D.pl, D.py, PyData.plain]; exact this
  | .ref _, _, e => by simp [D.key] at e
  | .ty _, _, e => by simp [D.key] at e
  | .fl _, _, e => by simp [D.key] at e
theorem keys_pl : ∀ (ds : List D) (ks : List NestedKey), D.keys ds = some ks → D.pls ds
  | [], _, _ => rfl
  | d :: ds, ks, e => by
    simp only [D.keys] at e
    split at e
    · rename_i k ks' e1 e2
      simp only [D.pls, D.pys, PyData.plainAll, Bool.and_eq_true]
      exact ⟨key_pl d k e1, keys_pl ds ks' e2⟩
    · cases e
end
theorem tup_rel {K : PySem.W.Frag} {H : Hp} {d : D} {v : V} (h : d.isTup = true) (r : RelD K H d v) : ∃ a, v = .ref a := by
  cases r <;> first | exact ⟨_, rfl⟩ | simp [D.isTup] at h
section
variable {X : Cx} {pins : List (Addr × Obj)} {σ : L2.St} {H : Hp} {s : Shared} {M : Mem}
theorem Inv.nested (I : Inv X pins σ H s) {d : D} {k : NestedKey} {v : V} {u : Value} (e : d.key = some k) (r : RelD X.K H d v) (rv : RelV v u) : NestedIs s.heap k u := by
  obtain ⟨as, q⟩ := Inv.rd I r (key_pl d k e) rv
  exact nestedOf d k u as e q
/-- the entries of a dict with tuple keys, as they lie -/
def EntN (K : PySem.W.Frag) (H : Hp) (kvs : List (D × D)) (L : List (NestedKey × Addr × Value)) : Prop :=
  ∃ vs : List V, kvs.map (fun p => p.1.key) = L.map (fun p => some p.1) ∧ RelDs K H (kvs.map (·.1)) (L.map fun p => V.ref p.2.1) ∧ RelDs K H (kvs.map (·.2)) vs ∧ Vals vs (L.map (·.2.2))
theorem EntN.at {K : PySem.W.Frag} {H : Hp} : ∀ {kvs : List (D × D)} {L : List (NestedKey × Addr × Value)} {d : D} {k : NestedKey}, EntN K H kvs L → d.key = some k →
    (dgetD kvs d = none → atKey L k = none) ∧ ∀ x, dgetD kvs d = some x → ∃ b u v, atKey L k = some (b, u) ∧ RelD K H x v ∧ RelV v u
  | [], [], _, _, _, _ => ⟨fun _ => rfl, fun x h => by simp [dgetD] at h⟩
  | [], _ :: _, _, _, ⟨_, h, _⟩, _ => by simp at h
  | _ :: _, [], _, _, ⟨_, h, _⟩, _ => by simp at h
  | p :: kvs, q :: L, d, k, ⟨vs, h, r1, r2, r3⟩, hd => by
    rw [List.map_cons, List.map_cons] at h
    injection h with h1 h2
    cases r1 with
    | cons a1 a2 =>
      cases r2 with
      | cons b1 b2 =>
        cases r3 with
        | cons c1 c2 =>
          have ih := EntN.at (kvs := kvs) (L := L) (d := d) (k := k) ⟨_, h2, a2, b2, c2⟩ hd
          by_cases he : q.1 = k
          · have e : decide (p.1.key = d.key) = true := decide_eq_true (by rw [h1, hd, he])
            refine ⟨fun z => ?_, fun x z => ?_⟩
            · rw [dgetD, List.find?_cons, e] at z; cases z
            · rw [dgetD, List.find?_cons, e] at z
              cases z
              exact ⟨q.2.1, q.2.2, _, by rw [atKey, List.find?_cons, decide_eq_true he]; rfl, b1, c1⟩
          · have e : decide (p.1.key = d.key) = false := decide_eq_false (by rw [h1, hd]; intro z; exact he (Option.some.inj z))
            have f : atKey (q :: L) k = atKey L k := by rw [atKey, List.find?_cons, decide_eq_false he]; rfl
            refine ⟨fun z => ?_, fun x z => ?_⟩
            · rw [dgetD, List.find?_cons, e] at z
              rw [f]; exact ih.1 z
            · rw [dgetD, List.find?_cons, e] at z
              rw [f]; exact ih.2 x z
/-- a dict that is asked with a tuple -/
theorem dic_n (I : Inv X pins σ H s) (rm : RelM X.prog X.w X.K H M) {a : Addr} {kvs : List (D × D)} (h : M a = some (.dic kvs)) (ht : ∀ p ∈ kvs, p.1.isTup = true) :
    ∃ L, s.heap.DictOfH (nestedKind X.prog X.w) a L ∧ EntN X.K H kvs L ∧ L.length ≤ sizeLine ∧ (a == sysModules) = false := by
  rcases rm a _ h with ⟨L, e, q1, q2⟩ | ⟨L, vs, e, q1, q2, q3, q4, q5⟩
  · have hk : kvs = [] := by
      cases kvs with
      | nil => rfl
      | cons p r =>
        cases L with
        | nil => simp at q1
        | cons q L' =>
          rw [List.map_cons, List.map_cons] at q1
          injection q1 with z _
          have := ht p (List.mem_cons_self)
          rw [pkey_notTup z] at this; cases this
    subst hk
    have hL : L = [] := by cases L with | nil => rfl | cons q L' => simp at q1
    subst hL
    obtain ⟨z, hd, vs, rel, o, es, ep, h1, h2, h3, h4, h5, h6⟩ := dk_of I.hok e
    cases rel
    have h7 : es.toList = [] := List.eq_nil_of_length_eq_zero (by have := h5.length; simpa using this)
    exact ⟨[], ⟨o, es, ep, h1, h2, h3, by rw [h7]; rfl, fun x hx => by simp at hx, List.nodup_nil⟩, ⟨[], rfl, .nil, .nil, .nil⟩, Nat.zero_le _, hd⟩
  · obtain ⟨⟨z, hd, o, es, ep, h1, h2, h3, h4, h5⟩, _⟩ := (show ObjOk X.prog X.w H s.heap a (RawD X.prog X.w a L) from I.hok a _ e)
    refine ⟨L, ⟨o, es, ep, h1, h2, h3, h4, fun x hx => ?_, h5⟩, ⟨vs, q1, q2, q4, q5⟩, z, hd⟩
    obtain ⟨i, hi⟩ := List.mem_iff_getElem?.mp hx
    have hk1 : (kvs.map fun p => p.1.key)[i]? = some (some x.1) := by rw [q1, List.getElem?_map, hi]; rfl
    rw [List.getElem?_map] at hk1
    obtain ⟨p, hp1, hp2⟩ := Option.map_eq_some_iff.mp hk1
    have hv1 : (L.map fun p => V.ref p.2.1)[i]? = some (.ref x.2.1) := by rw [List.getElem?_map, hi]; rfl
    obtain ⟨d, hd1, hd2⟩ := q2.getV hv1
    rw [List.getElem?_map, hp1] at hd1
    cases hd1
    exact ⟨Inv.nested I hp2 hd2 rfl, q3.2.2 x hx⟩
/-- a dict that is asked with an int or a text -/
theorem dic_k (rm : RelM X.prog X.w X.K H M) {a : Addr} {kvs : List (D × D)} (h : M a = some (.dic kvs)) (ht : ∀ p ∈ kvs, p.1.pkey.isSome = true) :
    ∃ L, H a = some (.dK L) ∧ kvs.map (fun p => p.1.pkey) = L.map (fun p => some p.1) ∧ RelDs X.K H (kvs.map (·.2)) (L.map (·.2)) := by
  rcases rm a _ h with q | ⟨L, vs, e, q1, q2, ⟨q3, q6, _⟩, q4, q5⟩
  · exact q
  · cases kvs with
    | nil => exact absurd rfl q6
    | cons p r =>
      have h1 := ht p List.mem_cons_self
      have h2 := q3 p List.mem_cons_self
      obtain ⟨k, hk⟩ := Option.isSome_iff_exists.mp h1
      rw [pkey_notTup hk] at h2; cases h2
variable {A : Around} {E : Value → Shared → Prop}
theorem dic_typeIs (I : Inv X pins σ H s) (rm : RelM X.prog X.w X.K H M) {a : Addr} {kvs : List (D × D)} (h : M a = some (.dic kvs)) : s.TypeIs (.ref a) "dict" := by
  rcases rm a _ h with ⟨L, e, q1, q2⟩ | ⟨L, vs, e, q1, q2, q3, q4, q5⟩
  · obtain ⟨_, _, vs, _, dd⟩ := dk_of I.hok e
    exact dd.typeIs
  · obtain ⟨⟨z, hd, o, es, ep, h1, h2, h3, h4, h5⟩, _⟩ := (show ObjOk X.prog X.w H s.heap a (RawD X.prog X.w a L) from I.hok a _ e)
    exact ⟨o, h1, h2.1⟩
/-- d[key], there -/
theorem dic_getItem (hu : A.units + 64 < cLine) (I : Inv X pins σ H s) (rm : RelM X.prog X.w X.K H M) {a : Addr} {kvs : List (D × D)} (h : M a = some (.dic kvs)) {e x : D} {y : V} {u : Value} (ko : keyOk kvs e) (g : dgetD kvs e = some x) (re : RelD X.K H e y) (ry : RelV y u)
    {Q : Value → Shared → Prop} (q : ∀ v w' s', Inv X pins σ H s' → RelD X.K H x v → RelV v w' → Q w' s') : wpAny (model X.prog X.w) A (getItem (.ref a) u) Q E s := by
  rcases ko with ⟨k1, k2⟩ | ⟨k1, k2, k, k3, k4⟩
  · obtain ⟨L, e1, q1, q2⟩ := dic_k rm h k2
    obtain ⟨k, hk⟩ := Option.isSome_iff_exists.mp k1
    obtain ⟨v, hv, rv⟩ := (valV_rel hk q1 q2).2 x g
    have ey := pkey_rel hk re
    subst ey
    exact d_getItem (v := v) (by omega) I (by rw [← hv]; exact .k e1) ry fun w' s' I' r' => q v w' s' I' rv r'
  · obtain ⟨L, dd, en, _, _⟩ := dic_n I rm h k2
    obtain ⟨b, u', v, h1, h2, h3⟩ := (en.at k3).2 x g
    obtain ⟨b', rfl⟩ := tup_rel k1 re
    cases ry
    have hn := Inv.nested I k3 re rfl
    exact wpAny_getItem_heap (knd := nestedKind X.prog X.w) (k := k) (show A.in1.units + 8 < cLine by show A.units + 1 + 8 < cLine; omega) ⟨hn, k4⟩ dd h1 (q v u' _ (I.tok _) h2 h3)
/-- key in d, key not in d -/
theorem dic_in (hu : A.units + 64 < cLine) (I : Inv X pins σ H s) (rm : RelM X.prog X.w X.K H M) {a : Addr} {kvs : List (D × D)} (h : M a = some (.dic kvs)) {e : D} {y : V} {u : Value} (ko : keyOk kvs e) (re : RelD X.K H e y) (ry : RelV y u)
    {Q : Value → Shared → Prop} (q : ∀ s', Inv X pins σ H s' → Q (.bool (dgetD kvs e).isSome) s') : wpAny (model X.prog X.w) A (compareOp .In u (.ref a)) Q E s := by
  rcases ko with ⟨k1, k2⟩ | ⟨k1, k2, k, k3, k4⟩
  · obtain ⟨L, e1, q1, q2⟩ := dic_k rm h k2
    obtain ⟨k, hk⟩ := Option.isSome_iff_exists.mp k1
    have hv := valV_rel hk q1 q2
    have ey := pkey_rel hk re
    subst ey
    refine d_in (by omega) I (.k e1) ry fun s' I' => ?_
    have e2 : (valV L k).isSome = (dgetD kvs e).isSome := by
      cases g : dgetD kvs e with
      | none => rw [hv.1 g]; rfl
      | some x => obtain ⟨v, hv2, _⟩ := hv.2 x g; rw [hv2]; rfl
    rw [e2]; exact q s' I'
  · obtain ⟨L, dd, en, _, hd⟩ := dic_n I rm h k2
    have hv := en.at k3
    obtain ⟨b', rfl⟩ := tup_rel k1 re
    cases ry
    have hn := Inv.nested I k3 re rfl
    have e2 : (atKey L k).isSome = (dgetD kvs e).isSome := by
      cases g : dgetD kvs e with
      | none => rw [hv.1 g]; rfl
      | some x => obtain ⟨b, u', v, hv2, _⟩ := hv.2 x g; rw [hv2]; rfl
    refine wpAny_in_heap (knd := nestedKind X.prog X.w) (k := k) (show A.in1.units + 8 < cLine by show A.units + 1 + 8 < cLine; omega) ⟨hn, k4⟩ hd dd ?_
    rw [e2]; exact q _ (I.tok _)
theorem dic_notIn (hu : A.units + 64 < cLine) (I : Inv X pins σ H s) (rm : RelM X.prog X.w X.K H M) {a : Addr} {kvs : List (D × D)} (h : M a = some (.dic kvs)) {e : D} {y : V} {u : Value} (ko : keyOk kvs e) (re : RelD X.K H e y) (ry : RelV y u)
    {Q : Value → Shared → Prop} (q : ∀ s', Inv X pins σ H s' → Q (.bool (!(dgetD kvs e).isSome)) s') : wpAny (model X.prog X.w) A (compareOp .NotIn u (.ref a)) Q E s := by
  rcases ko with ⟨k1, k2⟩ | ⟨k1, k2, k, k3, k4⟩
  · obtain ⟨L, e1, q1, q2⟩ := dic_k rm h k2
    obtain ⟨k, hk⟩ := Option.isSome_iff_exists.mp k1
    have hv := valV_rel hk q1 q2
    have ey := pkey_rel hk re
    subst ey
    refine d_notIn (by omega) I (.k e1) ry fun s' I' => ?_
    have e2 : (valV L k).isSome = (dgetD kvs e).isSome := by
      cases g : dgetD kvs e with
      | none => rw [hv.1 g]; rfl
      | some x => obtain ⟨v, hv2, _⟩ := hv.2 x g; rw [hv2]; rfl
    rw [e2]; exact q s' I'
  · obtain ⟨L, dd, en, _, hd⟩ := dic_n I rm h k2
    have hv := en.at k3
    obtain ⟨b', rfl⟩ := tup_rel k1 re
    cases ry
    have hn := Inv.nested I k3 re rfl
    have e2 : (valueAt (pairsH L) k).isSome = (dgetD kvs e).isSome := by
      rw [valueAt_pairsH, Option.isSome_map]
      cases g : dgetD kvs e with
      | none => rw [hv.1 g]; rfl
      | some x => obtain ⟨b, u', v, hv2, _⟩ := hv.2 x g; rw [hv2]; rfl
    refine notIn_keyed (knd := nestedKind X.prog X.w) (k := k) (show A.in1.units + 8 < cLine by show A.units + 1 + 8 < cLine; omega) ⟨hn, k4⟩ hd ⟨L, dd, rfl⟩ ?_
    rw [e2]; exact q _ (I.tok _)
end
end MP

namespace MP
open PySem PySem.Spec PyProof.Rows L2

/-! ### an object's case -/
def onLst (M : Mem) (a : Addr) (f : List D → Prop) : Prop := ∃ xs, M a = some (.lst xs) ∧ f xs
def onDic (M : Mem) (a : Addr) (f : List (D × D) → Prop) : Prop := ∃ xs, M a = some (.dic xs) ∧ f xs

/-! ### subscripts -/
/-- what stands there: no object is changed -/
def ixF (d e : D) (M : Mem) (Q : D → Prop) : Prop := match d with
  | .tup xs => ∃ i x, e = .int i ∧ atI xs i = some x ∧ Q x
  | .fl xs => ∃ i x, e = .int i ∧ atI xs i = some x ∧ Q x
  | .str z => ∃ i c, e = .int i ∧ z.length ≤ sizeLine ∧ atI z.cps.toList i = some c ∧ Q (.str ⟨#[c]⟩)
  | .ref a => (∃ xs i x, M a = some (.lst xs) ∧ e = .int i ∧ atI xs i = some x ∧ Q x) ∨ ∃ kvs x, M a = some (.dic kvs) ∧ keyOk kvs e ∧ dgetD kvs e = some x ∧ Q x
  | _ => False
theorem ixF_mono {d e : D} {M : Mem} {Q Q' : D → Prop} (h : ∀ x, Q x → Q' x) (q : ixF d e M Q) : ixF d e M Q' := by
  cases d <;> first
    | exact q.elim
    | (obtain ⟨i, x, e1, e2, q⟩ := q; exact ⟨i, x, e1, e2, h _ q⟩)
    | (obtain ⟨i, x, e1, e2, e3, q⟩ := q; exact ⟨i, x, e1, e2, e3, h _ q⟩)
    | (rcases q with ⟨xs, i, x, e1, e2, e3, q⟩ | ⟨kvs, x, e1, e2, e3, q⟩
       · exact .inl ⟨xs, i, x, e1, e2, e3, h _ q⟩
       · exact .inr ⟨kvs, x, e1, e2, e3, h _ q⟩)
def rIx : W2 := ⟨fun d e M Q => ixF d e M fun x => Q x M, fun d e M Q Q' h q => ixF_mono (fun x => h x M) q⟩
theorem atI_rel {K : PySem.W.Frag} {H : Hp} {ds : List D} {vs : List V} {i : Int} {x : D} (r : RelDs K H ds vs) (h : atI ds i = some x) : ∃ v, atI vs i = some v ∧ RelD K H x v := by
  unfold atI at h ⊢
  rw [← r.length]
  cases e : ixN ds.length i with
  | none => rw [e] at h; cases h
  | some j =>
    rw [e] at h
    obtain ⟨v, h1, h2⟩ := r.get (i := j) h
    exact ⟨v, h1, h2⟩
structure DIx (X : Cx) (r : W2) : Prop where
  ix : IxR X (l2 X.prog X.w X.K r)
section
variable {X : Cx} {a b : Expr} {wa wb : WE} {pos : Pos}
theorem d_ix (hu : X.A.units + 64 < cLine) : DIx X rIx := ⟨by
  intro value slice pins s σ H x y v u Q I rx ry ⟨d, e, M, Q', rd, re, rm, q, po⟩ hs
  cases rd with
  | tup ht hr =>
    obtain ⟨i, x, rfl, h, q⟩ := q
    cases re
    obtain ⟨v, h1, h2⟩ := atI_rel hr h
    exact ix_tup value slice pins s σ H _ _ _ _ Q I rx ry ⟨_, _, i, v, rfl, rfl, ht.sq, h1, po.here rm h2 q⟩ hs
  | fl ht hr =>
    obtain ⟨i, x, rfl, h, q⟩ := q
    cases re
    obtain ⟨v, h1, h2⟩ := atI_rel hr h
    exact ix_list value slice pins s σ H _ _ _ _ Q I rx ry ⟨_, _, i, v, rfl, rfl, ht.sq, h1, po.here rm h2 q⟩ hs
  | str z =>
    obtain ⟨i, c, rfl, hz, h, q⟩ := q
    cases re
    exact ix_str value slice pins s σ H _ _ _ _ Q I rx ry ⟨z, i, c, rfl, rfl, hz, h, po.here rm (.str _) q⟩ hs
  | ref p =>
    rcases q with ⟨xs, i, x, h0, rfl, h, q⟩ | ⟨kvs, x, h0, ko, h, q⟩
    · obtain ⟨vs, hH, hr⟩ := rm _ _ h0
      cases re
      obtain ⟨v, h1, h2⟩ := atI_rel hr h
      exact ix_list value slice pins s σ H _ _ _ _ Q I rx ry ⟨_, _, i, v, rfl, rfl, .inl (.inl hH), h1, po.here rm h2 q⟩ hs
    · cases rx
      exact tail_any (dic_typeIs I rm h0) PySem.F.slot_dict_getitem.lookup (dic_getItem hu I rm h0 ko h re ry fun v w' s' I' r1 r2 => ⟨v, H, I', r2, po.here rm r1 q⟩) hs
  | _ => exact False.elim q⟩
theorem de_ix {r : W2} (hr : DIx X r) (ha : DE X a wa) (hb : DE X b wb) (hs : PlainIx b := by intro _ _; with_unfolding_all rfl) : DE X (.Subscript a b pos) (wOp r wa wb) :=
  ⟨PE.imp (pe_ix hr.ix ha.pe hb.pe hs) fun σ H Q ⟨ρ, M, Q', rs, rm, q, po⟩ => ⟨ρ, M, _, rs, rm, q, fun x d H1 M1 s1 m1 r1 q1 => ⟨ρ, M1, _, rs.keep (s1.keep rm), m1, q1, fun y e H2 M2 s2 m2 r2 q2 =>
    ⟨d, e, M2, Q', r1.keep (s2.keep m1), r2, m2, q2, (po.after s1).after s2⟩⟩⟩⟩
end

/-! ### slices -/
def cutD {α : Type} (xs : List α) (lo hi : Option Int) : List α := List.take (HT.sIx xs.length xs.length hi - HT.sIx xs.length 0 lo) (List.drop (HT.sIx xs.length 0 lo) xs)
structure WO where
  f : Sl → Mem → (Option Int → Mem → Prop) → Prop
  mono : ∀ ρ M Q Q', (∀ d M, Q d M → Q' d M) → f ρ M Q → f ρ M Q'
def oNone : WO := ⟨fun _ M Q => Q none M, fun _ _ _ _ h q => h _ _ q⟩
def oSome (e : WE) : WO := ⟨fun ρ M Q => e.f ρ M fun d M1 => ∃ i, d = .int i ∧ Q (some i) M1, fun ρ M Q Q' h q => e.mono _ _ _ _ (fun _ _ ⟨i, e, q⟩ => ⟨i, e, h _ _ q⟩) q⟩
def slF (d : D) (lo hi : Option Int) (M : Mem) (Q : D → Mem → Prop) : Prop := match d with
  | .tup xs => Q (.tup (cutD xs lo hi)) M
  | .str z => z.length ≤ sizeLine ∧ Q (.str (cutS z lo hi)) M
  | .fl xs => ∀ p, M p = none → Q (.ref p) (mupd M p (.lst (cutD xs lo hi)))
  | .ref a => ∃ xs, M a = some (.lst xs) ∧ ∀ p, M p = none → Q (.ref p) (mupd M p (.lst (cutD xs lo hi)))
  | _ => False
theorem slF_mono {d : D} {lo hi : Option Int} {M : Mem} {Q Q' : D → Mem → Prop} (h : ∀ d M, Q d M → Q' d M) (q : slF d lo hi M Q) : slF d lo hi M Q' := by
  cases d <;> first
    | exact q.elim
    | exact h _ _ q
    | exact ⟨q.1, h _ _ q.2⟩
    | exact fun p hp => h _ _ (q p hp)
    | (obtain ⟨xs, e, q⟩ := q; exact ⟨xs, e, fun p hp => h _ _ (q p hp)⟩)
def wSl (e : WE) (lo hi : WO) : WE := ⟨fun ρ M Q => e.f ρ M fun d M1 => lo.f ρ M1 fun l M2 => hi.f ρ M2 fun u M3 => slF d l u M3 Q,
  fun ρ M Q Q' h q => e.mono _ _ _ _ (fun _ _ q => lo.mono _ _ _ _ (fun _ _ q => hi.mono _ _ _ _ (fun _ _ q => slF_mono h q) q) q) q⟩
section
variable (P : Program) (w : World) (K : PySem.W.Frag)
def lO (t : WO) : TO := fun σ H Q => ∃ ρ M Q', RelS K H ρ σ ∧ RelM P w K H M ∧ t.f ρ M Q' ∧ ∀ o H' M', Step H M H' M' → RelM P w K H' M' → Q' o M' → Q o H'
def lSl : V → Option Int → Option Int → Hp → VK → Prop := fun x lo hi H Q => ∃ d M Q', RelD K H d x ∧ RelM P w K H M ∧ slF d lo hi M Q' ∧ Post P w K H M Q' Q
end
structure DO (X : Cx) (e : Option Expr) (t : WO) : Prop where
  po : PO X e (lO X.prog X.w X.K t)
theorem PO.imp {X : Cx} {e : Option Expr} {t u : TO} (h : PO X e t) (i : ∀ σ H Q, u σ H Q → t σ H Q) : PO X e u := ⟨fun pins s σ H Q I q => h.run pins s σ H Q I (i _ _ _ q)⟩
theorem cut_rel {K : PySem.W.Frag} {H : Hp} {ds : List D} {vs : List V} (r : RelDs K H ds vs) (lo hi : Option Int) : RelDs K H (cutD ds lo hi) (cutV vs lo hi) := by
  unfold cutD cutV
  rw [← r.length]
  exact (r.drop _).take _
section
variable {X : Cx} {e : Expr} {lo hi : Option Expr} {we : WE} {wl wh : WO} {pos p2 : Pos}
theorem do_none : DO X none oNone := ⟨PO.imp po_none fun σ H Q ⟨ρ, M, Q', rs, rm, q, po⟩ => po none H M Step.refl rm q⟩
theorem do_some (h : DE X e we) : DO X (some e) (oSome we) := ⟨PO.imp (po_some h.pe) fun σ H Q ⟨ρ, M, Q', rs, rm, q, po⟩ => ⟨ρ, M, _, rs, rm, q, fun x d H1 M1 s1 m1 r1 ⟨i, ei, q1⟩ => by
  subst ei
  exact ⟨i, rel_int r1, po _ H1 M1 s1 m1 q1⟩⟩⟩
theorem slR : SlR X (lSl X.prog X.w X.K) := by
  intro pins s σ H x v vl vu lo hi sl Q I rx hs hl hh ⟨d, M, Q', rd, rm, q, po⟩
  cases rd with
  | tup ht hr => exact sl_tupA pins s σ H _ v vl vu lo hi sl Q I rx hs hl hh ⟨_, _, rfl, ht.sq, fun e => po.here rm (.tup ht hr) (by
          have e2 := hr.length
          rw [← e2] at e
          have q' : Q' (.tup (cutD _ lo hi)) M := q
          unfold cutD at q'
          rw [e.1, e.2, List.drop_zero, Nat.sub_zero, List.take_length] at q'
          exact q'),
      fun _ p hp => po _ _ _ M (Step.beside hp) (rm.beside hp) (.tup (.inl upd_same) ((cut_rel hr lo hi).keep (keep_new hp))) q⟩
  | str z => exact sl_str pins s σ H _ v vl vu lo hi sl Q I rx hs hl hh ⟨z, rfl, q.1, po.here rm (.str _) q.2⟩
  | fl ht hr => exact sl_list pins s σ H _ v vl vu lo hi sl Q I rx hs hl hh ⟨_, _, rfl, ht.sq, fun p hp =>
      po _ _ _ _ (Step.new rm hp (.lst _)) (rm.laid hp (keep_new hp) ⟨_, upd_same, (cut_rel hr lo hi).keep (keep_new hp)⟩) (.ref p) (q p (rm.free hp))⟩
  | ref a =>
    obtain ⟨xs, h0, q⟩ := q
    obtain ⟨vs, hH, hr⟩ := rm _ _ h0
    exact sl_list pins s σ H _ v vl vu lo hi sl Q I rx hs hl hh ⟨_, _, rfl, .inl (.inl hH), fun p hp =>
      po _ _ _ _ (Step.new rm hp (.lst _)) (rm.laid hp (keep_new hp) ⟨_, upd_same, (cut_rel hr lo hi).keep (keep_new hp)⟩) (.ref p) (q p (rm.free hp))⟩
  | _ => exact False.elim q
theorem de_slice (he : DE X e we) (hl : DO X lo wl) (hh : DO X hi wh) : DE X (.Subscript e (.Slice lo hi none p2) pos) (wSl we wl wh) :=
  ⟨PE.imp (pe_slice slR he.pe hl.po hh.po) fun σ H Q ⟨ρ, M, Q', rs, rm, q, po⟩ => ⟨ρ, M, _, rs, rm, q, fun x d H1 M1 s1 m1 r1 q1 => ⟨ρ, M1, _, rs.keep (s1.keep rm), m1, q1, fun l H2 M2 s2 m2 q2 =>
    ⟨ρ, M2, _, rs.keep ((s1.trans s2).keep rm), m2, q2, fun u H3 M3 s3 m3 q3 => ⟨d, M3, Q', r1.keep ((s2.trans s3).keep m1), m3, q3, ((po.after s1).after s2).after s3⟩⟩⟩⟩⟩
end

/-! ### o[i] = v -/
theorem any_dget (d : D) : ∀ kvs : List (D × D), (kvs.any fun p => decide (p.1.key = d.key)) = (dgetD kvs d).isSome
  | [] => rfl
  | p :: r => by
    rw [List.any_cons, dgetD, List.find?_cons]
    by_cases e : p.1.key = d.key
    · rw [decide_eq_true e]; rfl
    · rw [decide_eq_false e, Bool.false_or, any_dget d r]; rfl
section
variable {K : PySem.W.Frag} {H : Hp}
theorem EntN.put1 : ∀ {kvs : List (D × D)} {L : List (NestedKey × Addr × Value)} {d : D} {k : NestedKey} {x : D} {v : V} {u : Value}, EntN K H kvs L → d.key = some k → RelD K H x v → RelV v u →
    EntN K H (kvs.map fun p => if p.1.key = d.key then (p.1, x) else p) (L.map (putAt k u))
  | [], [], _, _, _, _, _, _, _, _, _ => ⟨[], rfl, .nil, .nil, .nil⟩
  | [], _ :: _, _, _, _, _, _, ⟨_, h, _⟩, _, _, _ => by simp at h
  | _ :: _, [], _, _, _, _, _, ⟨_, h, _⟩, _, _, _ => by simp at h
  | p :: kvs, q :: L, d, k, x, v, u, ⟨vs, h, r1, r2, r3⟩, hd, rx, ru => by
    rw [List.map_cons, List.map_cons] at h
    injection h with h1 h2
    cases r1 with
    | cons a1 a2 =>
      cases r2 with
      | cons b1 b2 =>
        cases r3 with
        | cons c1 c2 =>
          rename_i vv _
          obtain ⟨vs', i1, i2, i3, i4⟩ := EntN.put1 (kvs := kvs) (L := L) (d := d) (k := k) ⟨_, h2, a2, b2, c2⟩ hd rx ru
          by_cases he : q.1 = k
          · have e : p.1.key = d.key := by rw [h1, hd, he]
            refine ⟨v :: vs', ?_, ?_, ?_, ?_⟩
            · rw [List.map_cons, List.map_cons, List.map_cons, List.map_cons, i1, if_pos e, putAt, if_pos he]; exact congrArg (· :: _) h1
            · rw [List.map_cons, List.map_cons, List.map_cons, List.map_cons, if_pos e, putAt, if_pos he]; exact .cons a1 i2
            · rw [List.map_cons, List.map_cons, if_pos e]; exact .cons rx i3
            · rw [List.map_cons, List.map_cons, putAt, if_pos he]; exact .cons ru i4
          · have e : ¬ p.1.key = d.key := by rw [h1, hd]; intro z; exact he (Option.some.inj z)
            refine ⟨vv :: vs', ?_, ?_, ?_, ?_⟩
            · rw [List.map_cons, List.map_cons, List.map_cons, List.map_cons, i1, if_neg e, putAt, if_neg he]; exact congrArg (· :: _) h1
            · rw [List.map_cons, List.map_cons, List.map_cons, List.map_cons, if_neg e, putAt, if_neg he]; exact .cons a1 i2
            · rw [List.map_cons, List.map_cons, if_neg e]; exact .cons b1 i3
            · rw [List.map_cons, List.map_cons, putAt, if_neg he]; exact .cons c1 i4
theorem vals_app {xs ys : List V} {us ws : List Value} (a : Vals xs us) (b : Vals ys ws) : Vals (xs ++ ys) (us ++ ws) := by
  induction a with
  | nil => exact b
  | cons r _ ih => exact .cons r ih
theorem EntN.put {kvs : List (D × D)} {L : List (NestedKey × Addr × Value)} {d x : D} {k : NestedKey} {b : Addr} {v : V} {u : Value} (en : EntN K H kvs L) (hd : d.key = some k) (rd : RelD K H d (.ref b)) (rx : RelD K H x v) (ru : RelV v u) :
    EntN K H (dputD kvs d x) (storedH L k b u) := by
  unfold dputD storedH
  rw [any_dget]
  cases g : dgetD kvs d with
  | none =>
    rw [(en.at hd).1 g]
    obtain ⟨vs, h, r1, r2, r3⟩ := en
    refine ⟨vs ++ [v], ?_, ?_, ?_, ?_⟩
    · simp only [Option.isSome_none, if_false, List.map_append, List.map_cons, List.map_nil, h, hd, Bool.false_eq_true]
    · simp only [Option.isSome_none, if_false, List.map_append, List.map_cons, List.map_nil, Bool.false_eq_true]; exact r1.append (.cons rd .nil)
    · simp only [Option.isSome_none, if_false, List.map_append, List.map_cons, List.map_nil, Bool.false_eq_true]; exact r2.append (.cons rx .nil)
    · simp only [Option.isSome_none, if_false, List.map_append, List.map_cons, List.map_nil, Bool.false_eq_true]; exact vals_app r3 (.cons ru .nil)
  | some y =>
    obtain ⟨b', u', v', h1, _⟩ := (en.at hd).2 y g
    rw [h1]
    exact EntN.put1 en hd rx ru
theorem putK_rel {kvs : List (D × D)} {L : List (Key × V)} {d x : D} {k : Key} {v : V} (hd : d.pkey = some k) (h : kvs.map (fun p => p.1.pkey) = L.map (fun p => some p.1)) (r : RelDs K H (kvs.map (·.2)) (L.map (·.2))) (rx : RelD K H x v) :
    (dputD kvs d x).map (fun p => p.1.pkey) = (putK L k v).map (fun p => some p.1) ∧ RelDs K H ((dputD kvs d x).map (·.2)) ((putK L k v).map (·.2)) := by
  have put1 : ∀ {kvs : List (D × D)} {L : List (Key × V)}, kvs.map (fun p => p.1.pkey) = L.map (fun p => some p.1) → RelDs K H (kvs.map (·.2)) (L.map (·.2)) →
      (kvs.map fun p => if p.1.key = d.key then (p.1, x) else p).map (fun p => p.1.pkey) = (L.map fun q => if q.1 = k then (q.1, v) else q).map (fun p => some p.1) ∧
      RelDs K H ((kvs.map fun p => if p.1.key = d.key then (p.1, x) else p).map (·.2)) ((L.map fun q => if q.1 = k then (q.1, v) else q).map (·.2)) := by
    intro kvs
    induction kvs with
    | nil => intro L h r; cases L with
      | nil => exact ⟨rfl, .nil⟩
      | cons q L => simp at h
    | cons p kvs ih => intro L h r; cases L with
      | nil => simp at h
      | cons q L =>
        rw [List.map_cons, List.map_cons] at h
        injection h with h1 h2
        cases r with
        | cons r1 r2 =>
          obtain ⟨i1, i2⟩ := ih h2 r2
          have e := pkey_eq h1 hd
          by_cases he : q.1 = k
          · rw [decide_eq_true he] at e
            have e := of_decide_eq_true e
            rw [List.map_cons, List.map_cons, List.map_cons, List.map_cons, List.map_cons, List.map_cons, i1, if_pos e, if_pos he]
            exact ⟨congrArg (· :: _) h1, .cons rx i2⟩
          · rw [decide_eq_false he] at e
            have e := of_decide_eq_false e
            rw [List.map_cons, List.map_cons, List.map_cons, List.map_cons, List.map_cons, List.map_cons, i1, if_neg e, if_neg he]
            exact ⟨congrArg (· :: _) h1, .cons r1 i2⟩
  unfold dputD putK
  rw [any_dget, valV_any]
  cases g : dgetD kvs d with
  | none =>
    rw [(valV_rel hd h r).1 g]
    simp only [Option.isSome_none, if_false, List.map_append, List.map_cons, List.map_nil, Bool.false_eq_true]
    exact ⟨by rw [h, hd], r.append (.cons rx .nil)⟩
  | some y =>
    obtain ⟨v', h1, _⟩ := (valV_rel hd h r).2 y g
    rw [h1]
    exact put1 h r
end
theorem dput_len (kvs : List (D × D)) (d x : D) : (dputD kvs d x).length ≤ kvs.length + 1 := by
  unfold dputD
  split
  · rw [List.length_map]; omega
  · rw [List.length_append]; simp
theorem dput_tup {kvs : List (D × D)} {d x : D} (h : ∀ p ∈ kvs, p.1.isTup = true) (hd : d.isTup = true) : ∀ p ∈ dputD kvs d x, p.1.isTup = true := by
  intro p hp
  unfold dputD at hp
  split at hp
  · obtain ⟨q, hq, e⟩ := List.mem_map.mp hp
    split at e
    · rw [← e]; exact h q hq
    · rw [← e]; exact h q hq
  · rcases List.mem_append.mp hp with hp | hp
    · exact h p hp
    · rw [List.mem_singleton.mp hp]; exact hd
theorem dput_ne {kvs : List (D × D)} {d x : D} : dputD kvs d x ≠ [] := by
  unfold dputD
  split
  · rename_i h
    cases kvs with
    | nil => simp at h
    | cons p r => simp
  · simp
theorem storedH_deep {L : List (NestedKey × Addr × Value)} {k : NestedKey} {b : Addr} {u : Value} (h : ∀ p ∈ L, p.1.depth ≤ 8) (hk : k.depth ≤ 8) : ∀ p ∈ storedH L k b u, p.1.depth ≤ 8 := by
  intro p hp
  unfold storedH at hp
  split at hp
  · obtain ⟨q, hq, e⟩ := List.mem_map.mp hp
    unfold putAt at e
    split at e
    · rw [← e]; exact h q hq
    · rw [← e]; exact h q hq
  · rcases List.mem_append.mp hp with hp | hp
    · exact h p hp
    · rw [List.mem_singleton.mp hp]; exact hk
section
variable {X : Cx} {pins : List (Addr × Obj)} {σ : L2.St} {H : Hp} {s : Shared} {M : Mem} {A : Around} {E : Value → Shared → Prop}
theorem dic_setItem (hu : A.units + 64 < cLine) (I : Inv X pins σ H s) (rm : RelM X.prog X.w X.K H M) {a : Addr} {kvs : List (D × D)} (h : M a = some (.dic kvs)) {e x : D} {y v : V} {u z : Value} (ko : keyOk kvs e) (hl : kvs.length < sizeLine) (re : RelD X.K H e y) (ry : RelV y u) (rx : RelD X.K H x v) (rv : RelV v z)
    {Q : Unit → Shared → Prop} (q : ∀ H' s', Inv X pins σ H' s' → Step H M H' (mupd M a (.dic (dputD kvs e x))) → RelM X.prog X.w X.K H' (mupd M a (.dic (dputD kvs e x))) → Q () s') : wpAny (model X.prog X.w) A (setItem (.ref a) u z) Q E s := by
  rcases ko with ⟨k1, k2⟩ | ⟨k1, k2, k, k3, k4⟩
  · obtain ⟨L, e1, q1, q2⟩ := dic_k rm h k2
    obtain ⟨k, hk⟩ := Option.isSome_iff_exists.mp k1
    have ey := pkey_rel hk re
    subst ey
    have hLl : L.length < sizeLine := by
      have := congrArg List.length q1
      rw [List.length_map, List.length_map] at this
      omega
    obtain ⟨p1, p2⟩ := putK_rel hk q1 q2 rx
    exact d_setItem (by omega) I (.k e1 hLl) ry rv fun s' I' => q _ s' I' (Step.write h) (rm.write h (fun _ z => nomatch z) (.inl ⟨_, upd_same, p1, p2.keep (rm.keepW h)⟩))
  · obtain ⟨L, dd, en, hz, hd⟩ := dic_n I rm h k2
    obtain ⟨b', rfl⟩ := tup_rel k1 re
    cases ry
    have hn := Inv.nested I k3 re rfl
    have deep : ∀ p ∈ L, p.1.depth ≤ 8 := fun p hp => by
      obtain ⟨_, _, _, _, _, _, _, his, _⟩ := id dd
      exact (his p hp).2
    have hL : L.length = kvs.length := by
      obtain ⟨_, e1, _⟩ := en
      have := congrArg List.length e1
      rw [List.length_map, List.length_map] at this
      omega
    refine wpAny_setItem_heap (knd := nestedKind X.prog X.w) (k := k) (hsz := hz) (show A.in1.units + 8 < cLine by show A.units + 1 + 8 < cLine; omega) ⟨hn, k4⟩ dd fun h' dd' hs => ?_
    have en' := en.put k3 re rx rv
    have hl' : (storedH L k b' z).length ≤ sizeLine := by
      unfold storedH
      split
      · rw [List.length_map]; exact hz
      · rw [List.length_append]; simp; omega
    obtain ⟨o, es, ep, h1, h2, h3, h4, _, h6⟩ := dd'
    have mu : Mut (H a) := by obtain ⟨u', hu', m⟩ := rm.mut h; rw [hu']; exact m
    have kw := rm.keepW (u := RawD X.prog X.w a (storedH L k b' z)) h
    obtain ⟨vs, n1, n2, n3, n4⟩ := en'
    refine q (upd H a (RawD X.prog X.w a (storedH L k b' z))) _ (d_write I mu hs ⟨o, h1⟩ ⟨⟨hl', hd, o, es, ep, h1, h2, h3, h4, h6⟩, ⟨o, h1⟩, ?_⟩) (Step.write h) (rm.write h (fun _ z => nomatch z) (.inr ⟨_, vs, upd_same, n1, n2.keep kw, ⟨dput_tup k2 k1, dput_ne, storedH_deep deep k4⟩, n3.keep kw, n4⟩))
    intro hA hB ⟨p1, p2, o, es, ep, g1, g2⟩ st
    exact ⟨p1, p2, o, es, ep, st o g1, g2⟩
end
def putF (d e x : D) (M : Mem) (Q : Mem → Prop) : Prop := match d with
  | .ref a => (∃ xs k j, M a = some (.lst xs) ∧ e = .int k ∧ ixN xs.length k = some j ∧ Q (mupd M a (.lst (xs.set j x)))) ∨ ∃ kvs, M a = some (.dic kvs) ∧ keyOk kvs e ∧ kvs.length < sizeLine ∧ Q (mupd M a (.dic (dputD kvs e x)))
  | _ => False
theorem putF_mono {d e x : D} {M : Mem} {Q Q' : Mem → Prop} (h : ∀ M, Q M → Q' M) (q : putF d e x M Q) : putF d e x M Q' := by
  cases d <;> first
    | exact q.elim
    | (rcases q with ⟨xs, k, j, e1, e2, e3, q⟩ | ⟨kvs, e1, e2, e3, q⟩
       · exact .inl ⟨xs, k, j, e1, e2, e3, h _ q⟩
       · exact .inr ⟨kvs, e1, e2, e3, h _ q⟩)
def lPut (P : Program) (w : World) (K : PySem.W.Frag) : TSet := fun o i v H Q => ∃ d e x M Q', RelD K H d o ∧ RelD K H e i ∧ RelD K H x v ∧ RelM P w K H M ∧ putF d e x M Q' ∧ ∀ H' M', Step H M H' M' → RelM P w K H' M' → Q' M' → Q H'
/-- o[i] as a target -/
def gSubD (o i : WE) : WG := ⟨[], fun x ρ M Q => o.f ρ M fun d M1 => i.f ρ M1 fun e M2 => putF d e x M2 fun M3 => Q ρ M3,
  fun d ρ M Q Q' h q => o.mono _ _ _ _ (fun _ _ q => i.mono _ _ _ _ (fun _ _ q => putF_mono (fun M => h ρ M) q) q) q⟩
section
variable {X : Cx} {o i : Expr} {wo wi : WE} {pos : Pos}
theorem putR (hu : X.A.units + 64 < cLine) : PSet X (lPut X.prog X.w X.K) := by
  intro pins s σ H o i v ov iv u Q I ro ri rv ⟨d, e, x, M, Q', rd, re, rx, rm, q, po⟩
  cases rd with
  | ref a =>
    rcases q with ⟨xs, k, j, h0, rfl, hk, q⟩ | ⟨kvs, h0, ko, hl, q⟩
    · obtain ⟨vs, hH, hr⟩ := rm _ _ h0
      cases re
      exact set_list pins s σ H _ _ v ov iv u Q I ro ri rv ⟨a, vs, k, j, rfl, rfl, hH, by rw [← hr.length]; exact hk, po _ (mupd M a (.lst (xs.set j x))) (Step.write h0) (rm.write h0 (fun _ z => nomatch z) ⟨_, upd_same, (hr.set j rx).keep (rm.keepW h0)⟩) q⟩
    · cases ro
      exact dic_setItem hu I rm h0 ko hl re ri rx rv fun H' s' I' st rm' => ⟨H', I', po _ _ st rm' q⟩
  | _ => exact False.elim q
theorem dg_sub (hu : X.A.units + 64 < cLine) (ho : DE X o wo) (hi : DE X i wi)
    (hs : ∀ v, assign (.Subscript o i pos) X.env v = (do let ov ← holding [v] (eval o X.env); let iv ← holding [v, ov] (eval i X.env); standAt pos; holding [v, ov, iv] (setItem ov iv v); release [v, ov, iv] []) := by intro _; rfl) : DG X (.Subscript o i pos) (gSubD wo wi) :=
  ⟨PG.imp (pg_sub ho.pe hi.pe (putR hu) hs) fun v σ H Q ⟨x, ρ, M, Q', rx, rs, rm, q, po⟩ => ⟨ρ, M, _, rs, rm, q, fun ov d H1 M1 s1 m1 r1 q1 => ⟨ρ, M1, _, rs.keep (s1.keep rm), m1, q1, fun iv e H2 M2 s2 m2 r2 q2 =>
    ⟨d, e, x, M2, _, r1.keep (s2.keep m1), r2, rx.keep ((s1.trans s2).keep rm), m2, q2, fun H3 M3 s3 m3 q3 => po σ ρ H3 M3 (s1.trans (s2.trans s3)) m3 (rs.keep ((s1.trans (s2.trans s3)).keep rm)) SlSame.refl q3⟩⟩⟩⟩
end
end MP

namespace MP
open PySem PySem.Spec PyProof.Rows L2

/-! ### methods of built-in types -/
structure WM where
  f : D → List D → Mem → (D → Mem → Prop) → Prop
  mono : ∀ d ds M Q Q', (∀ d M, Q d M → Q' d M) → f d ds M Q → f d ds M Q'
def tyD (T : String) (d : D) (M : Mem) : Prop := match d with
  | .str _ => T = "str"
  | .fl _ => T = "list"
  | .ref a => (T = "list" ∧ ∃ xs, M a = some (.lst xs)) ∨ (T = "dict" ∧ ∃ kvs, M a = some (.dic kvs))
  | _ => False
theorem tyD_is {X : Cx} {pins : List (Addr × Obj)} {σ : L2.St} {H : Hp} {s : Shared} {M : Mem} {T : String} {d : D} {x : V} {v : Value} (I : Inv X pins σ H s) (rm : RelM X.prog X.w X.K H M) (rd : RelD X.K H d x) (r : RelV x v) (ty : tyD T d M) :
    s.TypeIs v T ∧ ∀ a, v = .ref a → ∃ ob, s.heap.get? a = some ob ∧ ob.dict = none := by
  cases rd with
  | str z => exact tyV_is I r ty
  | fl ht hr => exact tyV_is I r (.inl ⟨ty, _, ht.sq⟩)
  | ref a =>
    rcases ty with ⟨e, xs, h⟩ | ⟨e, kvs, h⟩
    · obtain ⟨vs, hH, _⟩ := rm _ _ h
      exact tyV_is I r (.inl ⟨e, vs, .inl (.inl hH)⟩)
    · subst e
      cases r
      refine ⟨dic_typeIs I rm h, fun a e => ?_⟩
      cases e
      rcases rm a _ h with ⟨L, e, q1, q2⟩ | ⟨L, vs, e, q1, q2, q3, q4, q5⟩
      · obtain ⟨_, _, vs, _, ob, _, _, h1, h2, _⟩ := dk_of I.hok e
        exact ⟨ob, h1, h2.2.1⟩
      · obtain ⟨⟨z, hd, o, es, ep, h1, h2, h3, h4, h5⟩, _⟩ := (show ObjOk X.prog X.w H s.heap a (RawD X.prog X.w a L) from I.hok a _ e)
        exact ⟨o, h1, h2.2.1⟩
  | _ => exact False.elim ty
def wBM (T : String) (r : WM) (o : WE) (t : WA) : WE := ⟨fun ρ M Q => o.f ρ M fun d M1 => tyD T d M1 ∧ t.f ρ M1 fun ds M2 => r.f d ds M2 Q,
  fun ρ M Q Q' h q => o.mono _ _ _ _ (fun _ _ q => ⟨q.1, t.mono _ _ _ _ (fun _ _ q => r.mono _ _ _ _ _ h q) q.2⟩) q⟩
def lM (P : Program) (w : World) (K : PySem.W.Frag) (r : WM) : V → List V → Hp → VK → Prop := fun x xs H Q => ∃ d ds M Q', RelD K H d x ∧ RelDs K H ds xs ∧ RelM P w K H M ∧ r.f d ds M Q' ∧ Post P w K H M Q' Q
structure DM (X : Cx) (T : String) (name : Str) (r : WM) : Prop where
  pr : ∃ id, PlainAttrs T ∧ Slot T name id ∧ typeOf (.builtin id) = pure (.type "method_descriptor") ∧ MtR X id (lM X.prog X.w X.K r)
section
variable {X : Cx} {o e : Expr} {es : List Expr} {wo : WE} {t : WA} {name : Str} {apos cpos : Pos} {T : String} {r : WM}
theorem de_bm (hm : DM X T name r) (ho : DE X o wo) (ha : DA X (e :: es) t)
    (hbase : attributeBase o name X.env (eval o X.env) = eval o X.env := by rfl)
    (hfew : ((backTo cpos (starEach (e :: es) X.env)).all (fun x => !x.1) && (backToKw cpos (keywordEach [] X.env)).all (fun x => x.1.isSome) && decide ((e :: es).length + ([] : List Keyword).length + (if ([] : List Keyword).isEmpty then 0 else 1) < 30)) = true := by rfl)
    (hline : (apos.endLine == cpos.line) = true := by rfl) (hs : starEach (e :: es) X.env = (false, eval e X.env) :: starEach es X.env := by rfl) (hplain : (backTo cpos (starEach es X.env)).any (·.1) = false := by rfl) :
    DE X (.Call (.Attribute o name apos) (e :: es) [] cpos) (wBM T r wo t) := ⟨by
  obtain ⟨id, pa, slot, hty, hm⟩ := hm.pr
  refine ⟨fun pins s σ H Q I ⟨ρ, M, Q', rs, rm, q, po⟩ => ?_⟩
  refine wpAny_Call_method_late hbase hfew hline rfl (thn (ho.pe.run pins s σ H (fun x H1 => ∃ d M1, RelD X.K H1 d x ∧ Step H M H1 M1 ∧ RelM X.prog X.w X.K H1 M1 ∧ tyD T d M1 ∧ t.f ρ M1 fun ds M2 => r.f d ds M2 Q') I
    ⟨ρ, M, _, rs, rm, q, fun x d H1 M1 s1 m1 r1 q1 => ⟨d, M1, r1, s1, m1, q1.1, q1.2⟩⟩) fun v s1 ⟨x, H1, I1, rx, d, M1, rd, st1, m1, ty, q1⟩ => ?_)
  obtain ⟨h1, h2⟩ := tyD_is I1 m1 rd rx ty
  refine ⟨T, id, pa, slot, hty, h1, h2, ?_⟩
  have hA := ha.pa.run cpos pins s1 σ H1 (fun xs H2 => lM X.prog X.w X.K r x xs H2 Q) I1 ⟨ρ, M1, _, rs.keep (st1.keep rm), m1, q1, fun xs ds H2 M2 s2 m2 r2 q2 => ⟨d, ds, M2, Q', rd.keep (s2.keep m1), r2, m2, q2, (po.after st1).after s2⟩⟩
  rw [hs] at hA ⊢
  refine Calls.callWith_builtin (by show (false || (backTo cpos (starEach es X.env)).any (·.1)) = false; rw [hplain] <;> rfl) (Calls.evalArgs_plain ?_)
  exact thn hA fun us s2 ⟨vs, H2, I2, r2, q2⟩ => hm pins s2 σ H2 x vs v us Q I2 rx r2 q2⟩
theorem de_bm0 (hm : DM X T name r) (ho : DE X o wo) (hbase : attributeBase o name X.env (eval o X.env) = eval o X.env := by rfl) (hline : (apos.endLine == cpos.line) = true := by rfl) :
    DE X (.Call (.Attribute o name apos) [] [] cpos) (wBM T r wo aNil) := ⟨by
  obtain ⟨id, pa, slot, hty, hm⟩ := hm.pr
  refine ⟨fun pins s σ H Q I ⟨ρ, M, Q', rs, rm, q, po⟩ => ?_⟩
  refine wpAny_Call_method0_late hbase hline (thn (ho.pe.run pins s σ H (fun x H1 => ∃ d M1, RelD X.K H1 d x ∧ Step H M H1 M1 ∧ RelM X.prog X.w X.K H1 M1 ∧ tyD T d M1 ∧ r.f d [] M1 Q') I
    ⟨ρ, M, _, rs, rm, q, fun x d H1 M1 s1 m1 r1 q1 => ⟨d, M1, r1, s1, m1, q1.1, q1.2⟩⟩) fun v s1 ⟨x, H1, I1, rx, d, M1, rd, st1, m1, ty, q1⟩ => ?_)
  obtain ⟨h1, h2⟩ := tyD_is I1 m1 rd rx ty
  exact ⟨T, id, pa, slot, hty, h1, h2, Calls.callWith_builtin rfl (PySem.evalArgs_none (hm pins s1 σ H1 x [] v [] Q I1 rx .nil ⟨d, [], M1, Q', rd, .nil, m1, q1, po.after st1⟩))⟩⟩
end
def mAppend : WM := ⟨fun d ds M Q => ∃ a xs y, d = .ref a ∧ ds = [y] ∧ M a = some (.lst xs) ∧ xs.length < sizeLine ∧ Q .non (mupd M a (.lst (xs ++ [y]))),
  fun _ _ _ _ _ h ⟨a, xs, y, e1, e2, e3, e4, q⟩ => ⟨a, xs, y, e1, e2, e3, e4, h _ _ q⟩⟩
def mExtend : WM := ⟨fun d ds M Q => ∃ a b xs ys, d = .ref a ∧ ds = [.ref b] ∧ M a = some (.lst xs) ∧ M b = some (.lst ys) ∧ xs.length + ys.length ≤ sizeLine ∧ Q .non (mupd M a (.lst (xs ++ ys))),
  fun _ _ _ _ _ h ⟨a, b, xs, y, e1, e2, e3, e4, e5, q⟩ => ⟨a, b, xs, y, e1, e2, e3, e4, e5, h _ _ q⟩⟩
/-- l.pop(), l.pop(i) -/
def mPop : WM := ⟨fun d ds M Q => ∃ a xs, d = .ref a ∧ M a = some (.lst xs) ∧ ((∃ y, ds = [] ∧ xs[xs.length - 1]? = some y ∧ Q y (mupd M a (.lst xs.dropLast))) ∨
    ∃ i k y, ds = [.int i] ∧ -(2 ^ 63) ≤ i ∧ i < 2 ^ 63 ∧ seqIndex? i xs.length = some k ∧ xs[k]? = some y ∧ Q y (mupd M a (.lst (xs.eraseIdx k)))),
  fun _ _ _ _ _ h ⟨a, xs, e1, e2, q⟩ => ⟨a, xs, e1, e2, q.imp (fun ⟨y, e3, e4, q⟩ => ⟨y, e3, e4, h _ _ q⟩) fun ⟨i, k, y, e3, e4, e5, e6, e7, q⟩ => ⟨i, k, y, e3, e4, e5, e6, e7, h _ _ q⟩⟩⟩
/-- l.index(x) -/
def mIndex : WM := ⟨fun d ds M Q => ∃ a xs y j, d = .ref a ∧ ds = [y] ∧ M a = some (.lst xs) ∧ D.pls xs ∧ y.pl ∧ min (D.deps xs) y.dep ≤ 60 ∧ (xs.findIdx? fun x => eqD x y) = some j ∧ Q (.int (j : Nat)) M,
  fun _ _ _ _ _ h ⟨a, xs, y, j, e1, e2, e3, e4, e5, e6, e7, q⟩ => ⟨a, xs, y, j, e1, e2, e3, e4, e5, e6, e7, h _ _ q⟩⟩
section
variable {X : Cx}
theorem dm_append : DM X "list" "append" mAppend := ⟨_, PySem.F.plainAttrs_list, PySem.F.slot_list_append, PySem.F.type_list_append, fun pins s σ H x xs v us Q I rx rv ⟨d, ds, M, Q', rd, rds, rm, q, po⟩ => by
  obtain ⟨a, ys, y, rfl, rfl, h0, hz, q⟩ := q
  obtain ⟨vs, hH, hr⟩ := rm _ _ h0
  obtain ⟨y', rfl, ry⟩ := rel1 rds
  exact mt_append pins s σ H x _ v us Q I rx rv ⟨a, vs, y', rel_ref rd, rfl, hH, by rw [← hr.length]; exact hz, po .non .non _ (mupd M a (.lst (ys ++ [y]))) (Step.write h0) (rm.write h0 (fun _ z => nomatch z) ⟨_, upd_same, (hr.append (.cons ry .nil)).keep (rm.keepW h0)⟩) .non q⟩⟩
theorem dm_extend : DM X "list" "extend" mExtend := ⟨_, PySem.F.plainAttrs_list, PySem.F.slot_list_extend, PySem.F.type_list_extend, fun pins s σ H x xs v us Q I rx rv ⟨d, ds, M, Q', rd, rds, rm, q, po⟩ => by
  obtain ⟨a, b, ys, zs, rfl, rfl, h0, h1, hz, q⟩ := q
  obtain ⟨vs, hH, hr⟩ := rm _ _ h0
  obtain ⟨ws, hB, hr2⟩ := rm _ _ h1
  obtain ⟨y', rfl, ry⟩ := rel1 rds
  exact mt_extend pins s σ H x _ v us Q I rx rv ⟨a, b, vs, ws, rel_ref rd, by rw [rel_ref ry], hH, hB, by rw [← hr.length, ← hr2.length]; exact hz, po .non .non _ (mupd M a (.lst (ys ++ zs))) (Step.write h0) (rm.write h0 (fun _ z => nomatch z) ⟨_, upd_same, (hr.append hr2).keep (rm.keepW h0)⟩) .non q⟩⟩
theorem dm_pop : DM X "list" "pop" mPop := ⟨_, PySem.F.plainAttrs_list, PySem.F.slot_list_pop, PySem.F.type_list_pop, fun pins s σ H x xs v us Q I rx rv ⟨d, ds, M, Q', rd, rds, rm, q, po⟩ => by
  obtain ⟨a, ys, rfl, h0, q⟩ := q
  obtain ⟨vs, hH, hr⟩ := rm _ _ h0
  rcases q with ⟨y, rfl, hy, q⟩ | ⟨i, k, y, rfl, h1, h2, h3, hy, q⟩
  · cases rds
    obtain ⟨v', hv, rv'⟩ := hr.get hy
    exact mt_pop pins s σ H x _ v us Q I rx rv ⟨a, vs, v', rel_ref rd, rfl, hH, by rw [← hr.length]; exact hv, po v' y _ (mupd M a (.lst ys.dropLast)) (Step.write h0) (rm.write h0 (fun _ z => nomatch z) ⟨_, upd_same, hr.dropLast.keep (rm.keepW h0)⟩) (rv'.keep (rm.keepW h0)) q⟩
  · obtain ⟨y', rfl, ry⟩ := rel1 rds
    obtain ⟨v', hv, rv'⟩ := hr.get hy
    exact mt_popAt pins s σ H x _ v us Q I rx rv ⟨a, vs, i, k, v', rel_ref rd, by rw [rel_int ry], hH, h1, h2, by rw [← hr.length]; exact h3, hv, po v' y _ (mupd M a (.lst (ys.eraseIdx k))) (Step.write h0) (rm.write h0 (fun _ z => nomatch z) ⟨_, upd_same, (hr.eraseIdx k).keep (rm.keepW h0)⟩) (rv'.keep (rm.keepW h0)) q⟩⟩
theorem findIdx_py (y : D) : ∀ xs : List D, (PySem.SeqAt.dataPlace (D.pys xs) y.py) = xs.findIdx? fun x => eqD x y := fun xs => by
  rw [PySem.SeqAt.dataPlace, pys_map, List.findIdx?_map]; rfl
theorem dm_index (hu : X.A.units + 64 < cLine) : DM X "list" "index" mIndex := ⟨_, PySem.F.plainAttrs_list, PySem.F.slot_list_index, PySem.F.type_list_index, fun pins s σ H x xs v us Q I rx rv ⟨d, ds, M, Q', rd, rds, rm, q, po⟩ => by
  obtain ⟨a, ys, y, j, rfl, rfl, h0, p1, p2, hz, hj, q⟩ := q
  obtain ⟨vs, hH, hr⟩ := rm _ _ h0
  obtain ⟨y', rfl, ry⟩ := rel1 rds
  rw [rel_ref rd] at rx
  cases rx
  obtain ⟨u, rfl, ru⟩ := vals1 rv
  obtain ⟨bs, g2⟩ := Inv.rd I ry p2 ru
  obtain ⟨its, rits, ⟨ob, n, ho, hc, hdn, hdt⟩, hlen⟩ := I.list (.inl (.inl hH))
  obtain ⟨cls, dd, data, sls⟩ := ob
  simp only at hc hdn hdt
  subst hc hdn hdt
  obtain ⟨as, g1⟩ := Inv.rds I hr p1 rits
  have g1' : ReadsAll s.heap its.toArray.toList (D.pys ys) as := g1
  obtain ⟨hjs, e1, e2⟩ := PySem.SeqAt.hit_at g1' p1 (by rw [findIdx_py]; exact hj)
  have hs63 := sizeLine_eq
  have hl2 := rits.length
  have hjn : j < its.length := by simpa using hjs
  exact call_meets PySem.F.slot_list_index ⟨_, ho, rfl⟩ PySem.F.entry_list_index (PySem.F.args_list_index_2 _ _) (PySem.SeqAt.list_indexAt a its.toArray n none sls u (fun z => PyData.eqv (PySem.SeqAt.readOf s.heap z) y.py) j hjs (by omega) e1 fun m hm hmj => e2 m hm hmj)
    ⟨ho, PySem.SeqAt.items_plain g1' g2 p1 p2 (by have : min (PyData.depthAll (D.pys ys)) y.py.depth ≤ 60 := hz; omega), .int (j : Nat), H, I.tok _, ⟨_, rfl⟩, po.here rm (.int _) q⟩⟩
end

/-! ### built-in functions -/
structure DF (X : Cx) (f : Value) (r : WN) : Prop where
  op : DN X f r
section
variable {X : Cx}
theorem d_imp {f : Value} {r : WN} {t : List V → Hp → VK → Prop} (h : CallR X f t) (i : ∀ xs H Q, lN X.prog X.w X.K r xs H Q → t xs H Q) : DN X f r := ⟨fun pins s σ H xs us Q I rx q => h pins s σ H xs us Q I rx (i xs H Q q)⟩
end
/-- of an int -/
def nInt1 (g : Int → D) : WN := ⟨fun ds M Q => ∃ i, ds = [.int i] ∧ Q (g i) M, fun _ _ _ _ h ⟨i, e, q⟩ => ⟨i, e, h _ _ q⟩⟩
def nInt2 (g : Int → Int → D) : WN := ⟨fun ds M Q => ∃ i j, ds = [.int i, .int j] ∧ Q (g i j) M, fun _ _ _ _ h ⟨i, j, e, q⟩ => ⟨i, j, e, h _ _ q⟩⟩
abbrev nAbs : WN := nInt1 fun i => .int (if i < 0 then -i else i)
abbrev nMax2 : WN := nInt2 fun i j => .int (if j > i then j else i)
abbrev nMin2 : WN := nInt2 fun i j => .int (if j < i then j else i)
/-- int(x) of an int or a bool -/
def nInt : WN := ⟨fun ds M Q => match ds with
    | [.int i] => Q (.int i) M
    | [.bl b] => Q (.int (if b = true then 1 else 0)) M
    | _ => False, fun ds M Q Q' h q => by
  split at q
  · exact h _ _ q
  · exact h _ _ q
  · exact q.elim⟩
def nStrI : WN := ⟨fun ds M Q => ∃ i, ds = [.int i] ∧ i.natAbs.log2 < 1920 ∧ Q (.str (toString i)) M, fun _ _ _ _ h ⟨i, e, e2, q⟩ => ⟨i, e, e2, h _ _ q⟩⟩
def lenF (d : D) (M : Mem) (Q : Nat → Prop) : Prop := match d with
  | .tup xs => Q xs.length
  | .fl xs => Q xs.length
  | .str z => z.length ≤ sizeLine ∧ Q z.length
  | .ref a => (∃ xs, M a = some (.lst xs) ∧ Q xs.length) ∨ ∃ kvs, M a = some (.dic kvs) ∧ Q kvs.length
  | _ => False
def nLen : WN := ⟨fun ds M Q => ∃ d, ds = [d] ∧ lenF d M fun n => Q (.int (n : Nat)) M, fun ds M Q Q' h ⟨d, e, q⟩ => ⟨d, e, by
  cases d <;> first
    | exact q.elim
    | exact h _ _ q
    | exact ⟨q.1, h _ _ q.2⟩
    | (rcases q with ⟨xs, e, q⟩ | ⟨xs, e, q⟩
       · exact .inl ⟨xs, e, h _ _ q⟩
       · exact .inr ⟨xs, e, h _ _ q⟩)⟩⟩
/-- what stands in a sequence -/
def itemsF (d : D) (M : Mem) (Q : List D → Prop) : Prop := match d with
  | .tup xs => Q xs
  | .fl xs => Q xs
  | .ref a => ∃ xs, M a = some (.lst xs) ∧ Q xs
  | _ => False
theorem itemsF_mono {d : D} {M : Mem} {Q Q' : List D → Prop} (h : ∀ xs, Q xs → Q' xs) (q : itemsF d M Q) : itemsF d M Q' := by
  cases d <;> first
    | exact q.elim
    | exact h _ q
    | (obtain ⟨xs, e, q⟩ := q; exact ⟨xs, e, h _ q⟩)
def nTuple : WN := ⟨fun ds M Q => ∃ d, ds = [d] ∧ itemsF d M fun xs => Q (.tup xs) M, fun ds M Q Q' h ⟨d, e, q⟩ => ⟨d, e, itemsF_mono (fun xs => h _ _) q⟩⟩
def nList : WN := ⟨fun ds M Q => ∃ d, ds = [d] ∧ itemsF d M fun xs => ∀ p, M p = none → Q (.ref p) (mupd M p (.lst xs)), fun ds M Q Q' h ⟨d, e, q⟩ => ⟨d, e, itemsF_mono (fun xs q p hp => h _ _ (q p hp)) q⟩⟩
/-- of a list of ints; of bools -/
def nInts (C : List Int → Prop) (g : List Int → D → Prop) : WN := ⟨fun ds M Q => ∃ a ns, ds = [.ref a] ∧ M a = some (.lst (ns.map D.int)) ∧ C ns ∧ ∀ d, g ns d → Q d M, fun ds M Q Q' h q => by
  obtain ⟨a, ns, e1, e2, e3, q⟩ := q
  exact ⟨a, ns, e1, e2, e3, fun d hd => h _ _ (q d hd)⟩⟩
abbrev nSum : WN := nInts (fun _ => True) fun ns d => d = .int ns.sum
def nBls (g : List Bool → Bool) : WN := ⟨fun ds M Q => ∃ a bs, ds = [.ref a] ∧ M a = some (.lst (bs.map D.bl)) ∧ Q (.bl (g bs)) M, fun ds M Q Q' h q => by
  obtain ⟨a, ns, e1, e2, q⟩ := q
  exact ⟨a, ns, e1, e2, h _ _ q⟩⟩
abbrev nAny : WN := nBls fun bs => bs.any id
abbrev nAll : WN := nBls fun bs => bs.all id
section
variable {K : PySem.W.Frag} {H : Hp}
theorem rel_ints : ∀ {ns : List Int} {vs : List V}, RelDs K H (ns.map D.int) vs → vs = ns.map V.int
  | [], _, .nil => rfl
  | n :: ns, _, .cons r t => by rw [rel_int r, rel_ints t]; rfl
theorem rel_bls : ∀ {ns : List Bool} {vs : List V}, RelDs K H (ns.map D.bl) vs → vs = ns.map V.bl
  | [], _, .nil => rfl
  | n :: ns, _, .cons r t => by rw [relD_bl r, rel_bls t]; rfl
end
section
variable {X : Cx}
theorem f_abs : DN X (.builtin "abs") nAbs := d_imp call_abs fun xs H Q ⟨ds, M, Q', rds, rm, ⟨i, e, q⟩, po⟩ => by
  subst e
  obtain ⟨v, rfl, rv⟩ := rel1 rds
  exact ⟨i, by rw [rel_int rv], po.here rm (.int _) q⟩
theorem f_max2 (hc : X.calm = true) : DN X (.builtin "max") nMax2 := d_imp (call_max2 hc) fun xs H Q ⟨ds, M, Q', rds, rm, ⟨i, j, e, q⟩, po⟩ => by
  subst e
  obtain ⟨v, u, rfl, rv, ru⟩ := rel2 rds
  exact ⟨i, j, by rw [rel_int rv, rel_int ru], po.here rm (.int _) q⟩
theorem f_min2 (hc : X.calm = true) : DN X (.builtin "min") nMin2 := d_imp (call_min2 hc) fun xs H Q ⟨ds, M, Q', rds, rm, ⟨i, j, e, q⟩, po⟩ => by
  subst e
  obtain ⟨v, u, rfl, rv, ru⟩ := rel2 rds
  exact ⟨i, j, by rw [rel_int rv, rel_int ru], po.here rm (.int _) q⟩
theorem f_int : DN X (.type "int") nInt := d_imp call_int1 fun xs H Q ⟨ds, M, Q', rds, rm, q, po⟩ => by
  unfold nInt at q
  simp only at q
  split at q
  · rename_i i
    obtain ⟨v, rfl, rv⟩ := rel1 rds
    exact .inl ⟨i, by rw [rel_int rv], po.here rm (.int _) q⟩
  · rename_i b
    obtain ⟨v, rfl, rv⟩ := rel1 rds
    exact .inr ⟨b, by rw [relD_bl rv], po.here rm (.int _) q⟩
  · exact q.elim
theorem f_strI : DN X (.type "str") nStrI := d_imp call_str_int fun xs H Q ⟨ds, M, Q', rds, rm, ⟨i, e, e2, q⟩, po⟩ => by
  subst e
  obtain ⟨v, rfl, rv⟩ := rel1 rds
  exact ⟨i, by rw [rel_int rv], e2, po.here rm (.str _) q⟩
theorem f_len : DN X (.builtin "len") nLen := ⟨fun pins s σ H xs us Q I rx ⟨ds, M, Q', rds, rm, ⟨d, e, q⟩, po⟩ => by
  subst e
  obtain ⟨v, rfl, rv⟩ := rel1 rds
  cases rv with
  | tup ht hr => exact call_len pins s σ H _ us Q I rx ⟨_, _, rfl, .inr ⟨_, ht.sq, rfl⟩, po.here rm (.int _) (by rw [← hr.length]; exact q)⟩
  | fl ht hr => exact call_len pins s σ H _ us Q I rx ⟨_, _, rfl, .inl ⟨_, ht.sq, rfl⟩, po.here rm (.int _) (by rw [← hr.length]; exact q)⟩
  | str z => exact call_len pins s σ H _ us Q I rx ⟨_, _, rfl, ⟨q.1, rfl⟩, po.here rm (.int _) q.2⟩
  | ref a =>
    rcases q with ⟨ys, h0, q⟩ | ⟨kvs, h0, q⟩
    · obtain ⟨vs, hH, hr⟩ := rm _ _ h0
      exact call_len pins s σ H _ us Q I rx ⟨_, _, rfl, .inl ⟨_, .inl (.inl hH), rfl⟩, po.here rm (.int _) (by rw [← hr.length]; exact q)⟩
    · rcases rm a _ h0 with ⟨L, e, q1, q2⟩ | ⟨L, vs, e, q1, q2, q3, q4, q5⟩
      · have hl : kvs.length = L.length := by have := congrArg List.length q1; rw [List.length_map, List.length_map] at this; exact this
        exact call_lenD pins s σ H _ us Q I rx ⟨_, _, rfl, e, po.here rm (.int _) (by rw [← hl]; exact q)⟩
      · have hl : kvs.length = L.length := by have := congrArg List.length q1; rw [List.length_map, List.length_map] at this; exact this
        obtain ⟨L', dd, en, hz, hd⟩ := dic_n I rm h0 q3.1
        have hl' : kvs.length = L'.length := by obtain ⟨_, e1, _⟩ := en; have := congrArg List.length e1; rw [List.length_map, List.length_map] at this; exact this
        obtain ⟨u, rfl, ru⟩ := vals1 rx
        cases ru
        refine call_len_dictH hd dd (by rw [sizeLine_eq] at hz; omega) ⟨.int ((L'.length : Nat) : Int), H, I.tok _, ⟨_, rfl⟩, po.here rm (.int _) (by rw [← hl']; exact q)⟩
  | _ => exact False.elim q⟩
theorem f_tuple : DN X (.type "tuple") nTuple := d_imp call_tuple_of fun xs H Q ⟨ds, M, Q', rds, rm, ⟨d, e, q⟩, po⟩ => by
  subst e
  obtain ⟨v, rfl, rv⟩ := rel1 rds
  cases rv with
  | tup ht hr => exact ⟨_, _, rfl, .inr ⟨ht.sq, po.here rm (.tup ht hr) q⟩⟩
  | fl ht hr => exact ⟨_, _, rfl, .inl ⟨ht.sq, fun p hp => po _ _ _ M (Step.beside hp) (rm.beside hp) (.tup (.inl upd_same) (hr.keep (keep_new hp))) q⟩⟩
  | ref a =>
    obtain ⟨ys, h0, q⟩ := q
    obtain ⟨vs, hH, hr⟩ := rm _ _ h0
    exact ⟨_, _, rfl, .inl ⟨.inl (.inl hH), fun p hp => po _ _ _ M (Step.beside hp) (rm.beside hp) (.tup (.inl upd_same) (hr.keep (keep_new hp))) q⟩⟩
  | _ => exact False.elim q
theorem f_list : DN X (.type "list") nList := d_imp call_list_of fun xs H Q ⟨ds, M, Q', rds, rm, ⟨d, e, q⟩, po⟩ => by
  subst e
  obtain ⟨v, rfl, rv⟩ := rel1 rds
  cases rv with
  | tup ht hr => exact ⟨_, _, rfl, .inr ht.sq, fun p hp => po _ _ _ _ (Step.new rm hp (.lst _)) (rm.laid hp (keep_new hp) ⟨_, upd_same, hr.keep (keep_new hp)⟩) (.ref p) (q p (rm.free hp))⟩
  | fl ht hr => exact ⟨_, _, rfl, .inl ht.sq, fun p hp => po _ _ _ _ (Step.new rm hp (.lst _)) (rm.laid hp (keep_new hp) ⟨_, upd_same, hr.keep (keep_new hp)⟩) (.ref p) (q p (rm.free hp))⟩
  | ref a =>
    obtain ⟨ys, h0, q⟩ := q
    obtain ⟨vs, hH, hr⟩ := rm _ _ h0
    exact ⟨_, _, rfl, .inl (.inl (.inl hH)), fun p hp => po _ _ _ _ (Step.new rm hp (.lst _)) (rm.laid hp (keep_new hp) ⟨_, upd_same, hr.keep (keep_new hp)⟩) (.ref p) (q p (rm.free hp))⟩
  | _ => exact False.elim q
theorem f_sum (hc : X.calm = true) : DN X (.builtin "sum") nSum := d_imp (cr_sum hc) fun xs H Q ⟨ds, M, Q', rds, rm, ⟨a, ns, e, h0, _, q⟩, po⟩ => by
  subst e
  obtain ⟨v, rfl, rv⟩ := rel1 rds
  obtain ⟨vs, hH, hr⟩ := rm _ _ h0
  rw [rel_ints hr] at hH
  exact ⟨a, ns, by rw [rel_ref rv], .inl (.inl hH), po.here rm (.int _) (q _ rfl)⟩
theorem f_any (hc : X.calm = true) : DN X (.builtin "any") nAny := d_imp (cr_any hc) fun xs H Q ⟨ds, M, Q', rds, rm, ⟨a, ns, e, h0, q⟩, po⟩ => by
  subst e
  obtain ⟨v, rfl, rv⟩ := rel1 rds
  obtain ⟨vs, hH, hr⟩ := rm _ _ h0
  rw [rel_bls hr] at hH
  exact ⟨a, ns, by rw [rel_ref rv], .inl (.inl hH), po.here rm (.bl _) q⟩
theorem f_all (hc : X.calm = true) : DN X (.builtin "all") nAll := d_imp (cr_all hc) fun xs H Q ⟨ds, M, Q', rds, rm, ⟨a, ns, e, h0, q⟩, po⟩ => by
  subst e
  obtain ⟨v, rfl, rv⟩ := rel1 rds
  obtain ⟨vs, hH, hr⟩ := rm _ _ h0
  rw [rel_bls hr] at hH
  exact ⟨a, ns, by rw [rel_ref rv], .inl (.inl hH), po.here rm (.bl _) q⟩
end
end MP

namespace MP
open PySem PySem.Spec PyProof.Rows L2

/-! ### a tuple times an int -/
theorem tuple_mulS (l : Addr) (items : Array Value) (n : Nat) (dd : Option Addr) (sl : Array (Option Value)) (x : Int) (u : Tok) (c0 : (decide (x < -(2 ^ 63)) || decide (x ≥ 2 ^ 63)) = false) (c1 : (items.isEmpty || x == 1) = true) :
    Meets (Builtin.«tuple.__mul__» ⟨[.ref l, .int x u], []⟩) (fun _ R s => s.heap.get? l = some { cls := .type "tuple", dict := dd, data := .seq items n, slots := sl } ∧ R (.ok (.ret (Value.ref l))) s) :=
  .of_wp fun prog w A R s h => by
    obtain ⟨hp, g, d, tk, os⟩ := s
    obtain ⟨hl, h⟩ := h
    have f1 := AutoSeq1.idx_int
    wp_walk using wpAny_loadPart' hl
    refine wpAny_ite_false (decide_eq_false (by rw [c0]; exact Bool.false_ne_true)) ?_
    wp_walk using wpAny_loadPart' hl
    exact ⟨_, rfl, h⟩
theorem tuple_mul0 (l : Addr) (items : Array Value) (n : Nat) (dd : Option Addr) (sl : Array (Option Value)) (x : Int) (u : Tok) (c0 : (decide (x < -(2 ^ 63)) || decide (x ≥ 2 ^ 63)) = false) (c1 : (items.isEmpty || x == 1) = false) (c2 : x ≤ 0) :
    Meets (Builtin.«tuple.__mul__» ⟨[.ref l, .int x u], []⟩) (fun _ R s => s.heap.get? l = some { cls := .type "tuple", dict := dd, data := .seq items n, slots := sl } ∧
      R (.ok (.ret (Value.ref s.heap.objs.size))) { s with heap := s.heap.push { cls := Value.type "tuple", data := Data.seq #[] }, toks := s.toks }) :=
  .of_wp fun prog w A R s h => by
    obtain ⟨hp, g, d, tk, os⟩ := s
    obtain ⟨hl, h⟩ := h
    have f1 := AutoSeq1.idx_int
    have c3 : (decide (x ≤ 0) || items.isEmpty) = true := by rw [decide_eq_true c2]; rfl
    wp_walk using wpAny_loadPart' hl
    refine wpAny_ite_false (decide_eq_false (by rw [c0]; exact Bool.false_ne_true)) ?_
    wp_walk using wpAny_loadPart' hl
    exact ⟨_, rfl, h⟩
/-- * of ints; a list, a tuple times an int -/
def rMulA : W2 := ⟨fun d e M Q => match d, e with
    | .int i, .int j => CMul i j ∧ Q (.int (i * j)) M
    | .ref a, .int k => ∃ xs, M a = some (.lst xs) ∧ -(2 ^ 63) ≤ k ∧ k < 2 ^ 63 ∧ xs.length * k.toNat ≤ sizeLine ∧ ∀ p, M p = none → Q (.ref p) (mupd M p (.lst (List.replicate k.toNat xs).flatten))
    | .tup xs, .int k => -(2 ^ 63) ≤ k ∧ k ≤ 1000 ∧ xs.length ≤ 1000 ∧ Q (.tup (List.replicate k.toNat xs).flatten) M
    | _, _ => False, fun d e M Q Q' h q => by
  cases d <;> cases e <;> first | exact q.elim | exact ⟨q.1, h _ _ q.2⟩ | exact ⟨q.1, q.2.1, q.2.2.1, h _ _ q.2.2.2⟩ | (obtain ⟨xs, q1, q2, q3, q4, q5⟩ := q; exact ⟨xs, q1, q2, q3, q4, fun p hp => h _ _ (q5 p hp)⟩)⟩
section
variable {X : Cx}
theorem d_mulA : D2 X (binaryOp .Mult) rMulA := ⟨by
  intro pins s σ H x y v u Q I rx ry ⟨d, e, M, Q', rd, re, rm, q, po⟩
  have m1 : ∀ d e, rMul.f d e M Q' → RelD X.K H d x → RelD X.K H e y → wpAny (model X.prog X.w) X.A (binaryOp .Mult v u) (EP X pins σ Q) X.xe s := fun d e q rd re => d_mul.op pins s σ H x y v u Q I rx ry ⟨d, e, M, Q', rd, re, rm, q, po⟩
  cases d <;> cases e <;> first
    | exact False.elim q
    | exact m1 (.int _) (.int _) q rd re
    | exact m1 (.ref _) (.int _) q rd re
    | skip
  rename_i ds k
  obtain ⟨h1, h2, h3, q⟩ := q
  cases rd with
  | tup ht hr =>
    rename_i a xs
    cases re
    have hl := hr.length
    by_cases hk2 : xs ≠ [] ∧ 2 ≤ k
    · exact op_repT pins s σ H _ _ v u Q I rx ry ⟨a, k, xs, rfl, rfl, ht.sq, hk2.1, hk2.2, h2, by omega, fun p hp => po _ _ _ M (Step.beside hp) (rm.beside hp) (.tup (.inl upd_same) ((hr.rep _).keep (keep_new hp))) q⟩
    · cases rx
      obtain ⟨t, rfl⟩ := ry
      obtain ⟨its, r, ⟨⟨cls, dd, data, sl⟩, ho, hc, n, hd⟩, hs⟩ := I.tuple ht.sq
      simp only at hc hd
      subst hc hd
      have c0 : (decide (k < -(2 ^ 63)) || decide (k ≥ 2 ^ 63)) = false := by
        rw [decide_eq_false (by omega), decide_eq_false (by omega)] <;> rfl
      have hle : its.length = xs.length := r.length.symm
      have he : its.toArray.isEmpty = true ↔ xs = [] := by
        rw [Array.isEmpty_iff_size_eq_zero, List.size_toArray, hle]
        exact List.length_eq_zero_iff
      by_cases c1 : (its.toArray.isEmpty || k == 1) = true
      · have e2 : (List.replicate k.toNat ds).flatten = ds := by
          rw [Bool.or_eq_true, he] at c1
          rcases c1 with c1 | c1
          · rw [hr.nil_iff.mp c1]; induction k.toNat with
            | zero => rfl
            | succ m ih => rw [List.replicate_succ, List.flatten_cons, ih]; rfl
          · have e3 : k = 1 := by simpa using c1
            subst e3
            simp
        rw [e2] at q
        exact wpAny_binaryOp_repeat_ref (T := "tuple") (U := "int") (by decide) ⟨_, ho, rfl⟩ (fun s' => typeIs_int s' k t) noFill_tuple_mul F.fills_int_mul F.slot_int_rmul repeat_tuple F.slot_int_index.lookup
          (call_meets F.slot_int_rmul (typeIs_int s k t) F.entry_int_rmul (F.args_int_rmul_2 _ _) (int_rmul_tuple k t a its.toArray n dd sl)
            ⟨ho, rfl, ⟨_, ho, rfl⟩, call_meets F.slot_tuple_mul ⟨_, ho, rfl⟩ F.entry_tuple_mul (F.args_tuple_mul_2 _ _) (tuple_mulS a its.toArray n dd sl k t c0 c1) ⟨ho, .ref a, H, I, rfl, po.here rm (.tup ht hr) q⟩⟩)
      · have c1' : (its.toArray.isEmpty || k == 1) = false := Bool.eq_false_iff.mpr c1
        have hk0 : k ≤ 0 := by
          rw [Bool.or_eq_false_iff] at c1'
          have n1 : xs ≠ [] := fun z => by rw [he.mpr z] at c1'; exact absurd c1'.1 (by decide)
          have n2 : k ≠ 1 := by simpa using c1'.2
          have : ¬ 2 ≤ k := fun z => hk2 ⟨n1, z⟩
          omega
        have e2 : (List.replicate k.toNat ds).flatten = [] := by
          rw [Int.toNat_of_nonpos hk0]; rfl
        rw [e2] at q
        exact wpAny_binaryOp_repeat_ref (T := "tuple") (U := "int") (by decide) ⟨_, ho, rfl⟩ (fun s' => typeIs_int s' k t) noFill_tuple_mul F.fills_int_mul F.slot_int_rmul repeat_tuple F.slot_int_index.lookup
          (call_meets F.slot_int_rmul (typeIs_int s k t) F.entry_int_rmul (F.args_int_rmul_2 _ _) (int_rmul_tuple k t a its.toArray n dd sl)
            ⟨ho, rfl, ⟨_, ho, rfl⟩, call_meets F.slot_tuple_mul ⟨_, ho, rfl⟩ F.entry_tuple_mul (F.args_tuple_mul_2 _ _) (tuple_mul0 a its.toArray n dd sl k t c0 c1' hk0)
              ⟨ho, .ref s.heap.objs.size, _, I.laid (t' := s.toks) (o := .tup []) (fun b ob z => Heap.get?_push_of_some _ z) (Nat.le_refl _) ⟨Nat.zero_le _, [], .nil, IsTup.new _ _⟩, rfl,
                po _ (.tup []) _ M (Step.beside (I.hok.fresh (Nat.le_refl _))) (rm.beside (I.hok.fresh (Nat.le_refl _))) (.tup (.inl upd_same) .nil) q⟩⟩)⟩

/-! ### x in c -/
def rInn (n : Bool) : W2 := ⟨fun d e M Q => match e with
    | .tup xs => D.pls xs ∧ d.pl ∧ min (D.deps xs) d.dep ≤ 60 ∧ Q (.bl (xor n (xs.any fun x => eqD x d))) M
    | .fl xs => D.pls xs ∧ d.pl ∧ min (D.deps xs) d.dep ≤ 60 ∧ Q (.bl (xor n (xs.any fun x => eqD x d))) M
    | .str z => ∃ i, d = .str i ∧ Q (.bl (xor n (!(Builtin.Str.occurrences z i 0 z.length 1).isEmpty))) M
    | .ref a => (∃ xs, M a = some (.lst xs) ∧ D.pls xs ∧ d.pl ∧ min (D.deps xs) d.dep ≤ 60 ∧ Q (.bl (xor n (xs.any fun x => eqD x d))) M) ∨
        ∃ kvs, M a = some (.dic kvs) ∧ keyOk kvs d ∧ Q (.bl (xor n (dgetD kvs d).isSome)) M
    | _ => False, fun d e M Q Q' h q => by
  cases e <;> first
    | exact q.elim
    | (obtain ⟨q1, q2, q3, q4⟩ := q; exact ⟨q1, q2, q3, h _ _ q4⟩)
    | (obtain ⟨i, q1, q4⟩ := q; exact ⟨i, q1, h _ _ q4⟩)
    | (rcases q with ⟨xs, q0, q1, q2, q3, q4⟩ | ⟨kvs, q1, q2, q3⟩
       · exact .inl ⟨xs, q0, q1, q2, q3, h _ _ q4⟩
       · exact .inr ⟨kvs, q1, q2, h _ _ q3⟩)⟩
abbrev rIn : W2 := rInn false
abbrev rNotIn : W2 := rInn true
theorem any_py (d : D) : ∀ xs : List D, ((D.pys xs).any fun y => PyData.eqv y d.py) = xs.any fun x => eqD x d := fun xs => by
  rw [pys_map, List.any_map]; rfl
theorem d_in (hu : X.A.units + 64 < cLine) : D2 X (compareOp .In) rIn := ⟨by
  intro pins s σ H x y v u Q I rx ry ⟨d, e, M, Q', rd, re, rm, q, po⟩
  cases re with
  | @tup a xs vs ht hr =>
    obtain ⟨p1, p2, hz, q⟩ := q
    obtain ⟨bs, g2⟩ := Inv.rd I rd p2 rx
    obtain ⟨as, g1⟩ := Inv.rd I (d := .tup xs) (.tup ht hr) (by rw [D.pl, D.py, PyData.plain]; exact p1) ry
    rw [D.py] at g1
    exact PySem.SeqAt.in_tuple_data g1 g2 p1 p2 (by have : min (PyData.depthAll (D.pys xs)) d.py.depth ≤ 60 := hz; omega) (fin_b I rm po q (by rw [xor_f, any_py]))
  | @fl a xs vs ht hr =>
    obtain ⟨p1, p2, hz, q⟩ := q
    obtain ⟨bs, g2⟩ := Inv.rd I rd p2 rx
    obtain ⟨as, g1⟩ := Inv.rd I (d := .fl xs) (.fl ht hr) (by rw [D.pl, D.py, PyData.plain]; exact p1) ry
    rw [D.py] at g1
    exact PySem.SeqAt.in_list_data g1 g2 p1 p2 (by have : min (PyData.depthAll (D.pys xs)) d.py.depth ≤ 60 := hz; omega) (fin_b I rm po q (by rw [xor_f, any_py]))
  | str z =>
    obtain ⟨i, rfl, q⟩ := q
    exact op_in_str pins s σ H _ _ v u Q I rx ry ⟨i, z, rel_str rd, rfl, po.here rm (.bl _) (by rw [xor_f] at q; exact q)⟩
  | ref a =>
    rcases q with ⟨xs, h0, p1, p2, hz, q⟩ | ⟨kvs, h0, ko, q⟩
    · obtain ⟨vs, hH, hr⟩ := rm _ _ h0
      obtain ⟨bs, g2⟩ := Inv.rd I rd p2 rx
      obtain ⟨as, g1⟩ := Inv.rdl I hH hr p1
      cases ry
      exact PySem.SeqAt.in_list_data g1 g2 p1 p2 (by have : min (PyData.depthAll (D.pys xs)) d.py.depth ≤ 60 := hz; omega) (fin_b I rm po q (by rw [xor_f, any_py]))
    · cases ry
      exact dic_in hu I rm h0 ko rd rx fun s' I' => ⟨.bl _, H, I', rfl, po.here rm (.bl _) (by rw [xor_f] at q; exact q)⟩
  | _ => exact False.elim q⟩
theorem d_notIn (hu : X.A.units + 64 < cLine) : D2 X (compareOp .NotIn) rNotIn := ⟨by
  intro pins s σ H x y v u Q I rx ry ⟨d, e, M, Q', rd, re, rm, q, po⟩
  cases re with
  | @tup a xs vs ht hr =>
    obtain ⟨p1, p2, hz, q⟩ := q
    obtain ⟨bs, g2⟩ := Inv.rd I rd p2 rx
    obtain ⟨as, g1⟩ := Inv.rd I (d := .tup xs) (.tup ht hr) (by rw [D.pl, D.py, PyData.plain]; exact p1) ry
    rw [D.py] at g1
    exact PySem.SeqAt.notIn_tuple_data g1 g2 p1 p2 (by have : min (PyData.depthAll (D.pys xs)) d.py.depth ≤ 60 := hz; omega) (fin_b I rm po q (by rw [xor_t, any_py]))
  | @fl a xs vs ht hr =>
    obtain ⟨p1, p2, hz, q⟩ := q
    obtain ⟨bs, g2⟩ := Inv.rd I rd p2 rx
    obtain ⟨as, g1⟩ := Inv.rd I (d := .fl xs) (.fl ht hr) (by rw [D.pl, D.py, PyData.plain]; exact p1) ry
    rw [D.py] at g1
    exact PySem.SeqAt.notIn_list_data g1 g2 p1 p2 (by have : min (PyData.depthAll (D.pys xs)) d.py.depth ≤ 60 := hz; omega) (fin_b I rm po q (by rw [xor_t, any_py]))
  | str z =>
    obtain ⟨i, rfl, q⟩ := q
    exact op_notIn_str pins s σ H _ _ v u Q I rx ry ⟨i, z, rel_str rd, rfl, po.here rm (.bl _) (by rw [xor_t] at q; exact q)⟩
  | ref a =>
    rcases q with ⟨xs, h0, p1, p2, hz, q⟩ | ⟨kvs, h0, ko, q⟩
    · obtain ⟨vs, hH, hr⟩ := rm _ _ h0
      obtain ⟨bs, g2⟩ := Inv.rd I rd p2 rx
      obtain ⟨as, g1⟩ := Inv.rdl I hH hr p1
      cases ry
      exact PySem.SeqAt.notIn_list_data g1 g2 p1 p2 (by have : min (PyData.depthAll (D.pys xs)) d.py.depth ≤ 60 := hz; omega) (fin_b I rm po q (by rw [xor_t, any_py]))
    · cases ry
      exact dic_notIn hu I rm h0 ko rd rx fun s' I' => ⟨.bl _, H, I', rfl, po.here rm (.bl _) (by rw [xor_t] at q; exact q)⟩
  | _ => exact False.elim q⟩
end

/-! ### isinstance(x, T) -/
def tyName (d : D) (M : Mem) : Option String := match d with
  | .non => some "NoneType"
  | .bl _ => some "bool"
  | .int _ => some "int"
  | .str _ => some "str"
  | .tup _ => some "tuple"
  | .fl _ => some "list"
  | .ref a => match M a with
    | some (.lst _) => some "list"
    | some (.dic _) => some "dict"
    | _ => none
  | .ty _ => none
/-- is a T an U: the answer of the written table -/
def kitB2 (t u : String) : Option Bool := if t = u then some true else
  if u = "int" ∧ t = "bool" then some true else
  if (t = "NoneType" ∨ t = "bool" ∨ t = "int" ∨ t = "str" ∨ t = "tuple" ∨ t = "list" ∨ t = "dict") ∧ (u = "bool" ∨ u = "int" ∨ u = "str" ∨ u = "tuple" ∨ u = "list" ∨ u = "dict") then some false else none
theorem kitB2_ok (K : PySem.W.Frag) {t u : String} {b : Bool} (h : kitB2 t u = some b) : PySem.W.kitOne K (.type t) (.type u) = some b := by
  unfold kitB2 at h
  split at h
  · rename_i e; subst e; cases h; unfold PySem.W.kitOne; rw [if_pos (by simp)]
  · split at h
    · rename_i e1 e2
      obtain ⟨rfl, rfl⟩ := e2
      cases h
      exact kit_ty (by decide +kernel)
    · split at h
      · rename_i e1 e2 e3
        cases h
        obtain ⟨h1, h2⟩ := e3
        rcases h1 with rfl | rfl | rfl | rfl | rfl | rfl | rfl <;> rcases h2 with rfl | rfl | rfl | rfl | rfl | rfl <;> first | exact absurd rfl e1 | exact absurd ⟨rfl, rfl⟩ e2 | exact kit_ty (by decide +kernel)
      · cases h
def nIsi : WN := ⟨fun ds M Q => ∃ d u t b, ds = [d, .ty u] ∧ tyName d M = some t ∧ kitB2 t u = some b ∧ Q (.bl b) M, fun _ _ _ _ h ⟨d, u, t, b, e1, e2, e3, q⟩ => ⟨d, u, t, b, e1, e2, e3, h _ _ q⟩⟩
section
variable {X : Cx}
theorem tyName_ok {H : Hp} {M : Mem} {d : D} {x : V} {t : String} (rm : RelM X.prog X.w X.K H M) (rd : RelD X.K H d x) (h : tyName d M = some t) : (TyX X.K H x (.type t)) ∨ ∃ a kvs, x = .ref a ∧ M a = some (.dic kvs) ∧ t = "dict" := by
  cases rd with
  | non => cases h; exact .inl (.base .non)
  | bl b => cases h; exact .inl (.base (.bl b))
  | int i => cases h; exact .inl (.base (.int i))
  | str z => cases h; exact .inl (.base (.str z))
  | tup ht hr =>
    cases h
    rcases ht with ht | ⟨o, its, n, hk, hc, _⟩ | ⟨o, ht⟩
    · exact .inl (.base (.tup ht))
    · exact .inl (.kTuple hk hc)
    · exact .inl (.fTuple ht)
  | fl ht hr =>
    cases h
    rcases ht with ⟨o, ht⟩ | ⟨o, its, n, hk, hc, _⟩
    · exact .inl (.base (.frz ht))
    · exact .inl (.kList hk hc)
  | ref a =>
    simp only [tyName] at h
    split at h
    · rename_i xs e; cases h
      obtain ⟨vs, hH, _⟩ := rm _ _ e
      exact .inl (.base (.lst hH))
    · rename_i kvs e; cases h
      exact .inr ⟨a, kvs, rfl, e, rfl⟩
    · cases h
  | ty n => cases h
theorem f_isi : DN X (.builtin "isinstance") nIsi := ⟨fun pins s σ H xs us Q I rx ⟨ds, M, Q', rds, rm, ⟨d, u, t, b, e, e1, e2, q⟩, po⟩ => by
  subst e
  obtain ⟨x, y, rfl, rd, re⟩ := rel2 rds
  cases re
  rcases tyName_ok rm rd e1 with ty | ⟨a, kvs, rfl, h0, rfl⟩
  · exact call_isi pins s σ H _ us Q I rx ⟨x, .ty u, .type t, .type u, b, rfl, .ty u, ty, kitB2_ok X.K e2, po.here rm (.bl _) q⟩
  · obtain ⟨u1, u2, rfl, r1, r2⟩ := vals2 rx
    cases r1
    cases r2
    exact PySem.W.kia_one PySem.W.kitx_dict I.kIn (dic_typeIs I rm h0) (kitB2_ok X.K e2) (fun z => nomatch z) fun tk => ⟨.bl b, H, I.tok tk, rfl, po.here rm (.bl _) q⟩⟩
end

/-! ### sorted, max, min of data -/
def sortD (xs : List D) : List D := xs.mergeSort (PySem.W.dataLe false D.py)
def nSorted : WN := ⟨fun ds M Q => ∃ a xs, ds = [.ref a] ∧ M a = some (.lst xs) ∧ PySem.W.AllAlike (xs.map D.py) ∧ PySem.W.Sortable (xs.map D.py) ∧ (∀ x ∈ xs, x.pl ∧ x.dep ≤ 60) ∧ ∀ p, M p = none → Q (.ref p) (mupd M p (.lst (sortD xs))),
  fun _ _ _ _ h ⟨a, xs, e1, e2, e3, e4, e5, q⟩ => ⟨a, xs, e1, e2, e3, e4, e5, fun p hp => h _ _ (q p hp)⟩⟩
theorem each_rel {K : PySem.W.Frag} {H : Hp} : ∀ {ds : List D} {vs : List V} {us : List Value}, RelDs K H ds vs → Vals vs us → PySem.W.EachIs (fun u d => ∃ v, RelD K H d v ∧ RelV v u) us ds
  | _, _, _, .nil, .nil => .nil
  | _, _, _, .cons r t, .cons q u => .cons ⟨_, r, q⟩ (each_rel t u)
theorem rel_each {K : PySem.W.Frag} {H : Hp} : ∀ {ds : List D} {us : List Value}, PySem.W.EachIs (fun u d => ∃ v, RelD K H d v ∧ RelV v u) us ds → ∃ vs, RelDs K H ds vs ∧ Vals vs us
  | [], _, .nil => ⟨[], .nil, .nil⟩
  | _ :: _, _, .cons ⟨v, r, q⟩ t => let ⟨vs, a, b⟩ := rel_each t; ⟨v :: vs, .cons r a, .cons q b⟩
theorem each_reads {X : Cx} {pins : List (Addr × Obj)} {σ : L2.St} {H : Hp} {s : Shared} (I : Inv X pins σ H s) : ∀ {ds : List D} {vs : List V} {us : List Value}, RelDs X.K H ds vs → Vals vs us → (∀ d ∈ ds, d.pl) → PySem.W.EachIs (fun u d => ∃ as, Reads s.heap u (D.py d) as) us ds
  | _, _, _, .nil, .nil, _ => .nil
  | _, _, _, .cons r t, .cons q u, h => .cons (Inv.rd I r (h _ List.mem_cons_self) q) (each_reads I t u fun d hd => h d (List.mem_cons_of_mem _ hd))
section
variable {X : Cx}
theorem f_sorted (hu : X.A.units + 64 < cLine) : DN X (.builtin "sorted") nSorted := ⟨fun pins s σ H xs us Q I rx ⟨ds, M, Q', rds, rm, ⟨a, ys, e, h0, al, so, hp, q⟩, po⟩ => by
  subst e
  obtain ⟨x, rfl, rd⟩ := rel1 rds
  rw [rel_ref rd] at rx
  obtain ⟨u, rfl, ru⟩ := vals1 rx
  cases ru
  obtain ⟨vs, hH, hr⟩ := rm _ _ h0
  obtain ⟨its, rits, hl, hz⟩ := I.list (.inl (.inl hH))
  have hz' : ys.length ≤ sizeLine := by rw [hr.length]; exact hz
  refine PySem.W.sorted_data (s := s) (vs := its) (bs := ys) (enc := D.py) (R := fun u d => ∃ v, RelD X.K H d v ∧ RelV v u) hl.isList (each_rel hr rits) (each_reads I hr rits fun d hd => (hp d hd).1) al so hz' (fun b hb => by have : b.py.depth ≤ 60 := (hp b hb).2; omega) fun out ho eo => ?_
  obtain ⟨ws, r1, r2⟩ := rel_each eo
  obtain ⟨ep, he'⟩ := PyProof.Rows.sortedAll_at s.heap its out.toArray
  have hn : H (s.heap.objs.size + 1) = none := I.hok.fresh (Nat.le_succ _)
  have hlen : ws.length ≤ sizeLine := by rw [r2.length, ho]; exact hz'
  exact ⟨.ref _, _, I.laid (t' := s.toks) (o := .lst ws) (fun _ _ => PyProof.Rows.sortedAll_old) (Nat.le_succ _) ⟨hlen, out, ep, r2, he'⟩, rfl,
    po _ (.ref _) _ _ (Step.new rm hn (.lst (sortD ys))) (rm.laid hn (keep_new hn) ⟨ws, upd_same, r1.keep (keep_new hn)⟩) (.ref _) (q _ (rm.free hn))⟩⟩
end
/-- the first of the greatest, of the least -/
def maxDD (x : D) (xs : List D) : D := xs.foldl (fun a y => if ltD a y then y else a) x
def minDD (x : D) (xs : List D) : D := xs.foldl (fun a y => if ltD y a then y else a) x
theorem maxDD_py (x : D) : ∀ xs : List D, (maxDD x xs).py = PySem.W.maxD x.py (D.pys xs) := fun xs => by
  unfold maxDD PySem.W.maxD
  induction xs generalizing x with
  | nil => rfl
  | cons y ys ih =>
    rw [D.pys, List.foldl_cons, List.foldl_cons, ih]
    congr 1
    show D.py (if ltD x y = true then y else x) = if ltD x y = true then y.py else x.py
    split <;> rfl
theorem minDD_py (x : D) : ∀ xs : List D, (minDD x xs).py = PySem.W.minD x.py (D.pys xs) := fun xs => by
  unfold minDD PySem.W.minD
  induction xs generalizing x with
  | nil => rfl
  | cons y ys ih =>
    rw [D.pys, List.foldl_cons, List.foldl_cons, ih]
    congr 1
    show D.py (if ltD y x = true then y else x) = if ltD y x = true then y.py else x.py
    split <;> rfl
mutual
theorem py_inj : ∀ (d e : D), d.pl → e.pl → d.py = e.py → d = e
  | .non, e, _, p, h => by cases e <;> simp [D.py] at h <;> first | rfl | simp [D.pl, D.py, PyData.plain] at p
  | .bl b, e, _, p, h => by cases e <;> simp [D.py] at h <;> first | (subst h; rfl) | simp [D.pl, D.py, PyData.plain] at p
  | .int i, e, _, p, h => by cases e <;> simp [D.py] at h <;> first | (subst h; rfl) | simp [D.pl, D.py, PyData.plain] at p
  | .str x, e, _, p, h => by cases e <;> simp [D.py] at h <;> first | (subst h; rfl) | simp [D.pl, D.py, PyData.plain] at p
  | .tup xs, e, q, p, h => by
    cases e <;> simp [D.py] at h
    rw [pys_inj xs _ (by simpa [D.pl, D.py, PyData.plain] using q) (by simpa [D.pl, D.py, PyData.plain] using p) h]
  | .fl xs, e, q, p, h => by
    cases e <;> simp [D.py] at h
    rw [pys_inj xs _ (by simpa [D.pl, D.py, PyData.plain] using q) (by simpa [D.pl, D.py, PyData.plain] using p) h]
  | .ref _, _, q, _, _ => by simp [D.pl, D.py, PyData.plain] at q
  | .ty _, _, q, _, _ => by simp [D.pl, D.py, PyData.plain] at q
theorem pys_inj : ∀ (ds es : List D), D.pls ds → D.pls es → D.pys ds = D.pys es → ds = es
  | [], [], _, _, _ => rfl
  | [], _ :: _, _, _, h => by simp [D.pys] at h
  | _ :: _, [], _, _, h => by simp [D.pys] at h
  | d :: ds, e :: es, p, q, h => by
    simp only [D.pys, List.cons.injEq] at h
    simp only [D.pls, D.pys, PyData.plainAll, Bool.and_eq_true] at p q
    rw [py_inj d e p.1 q.1 h.1, pys_inj ds es p.2 q.2 h.2]
end
theorem mem_fold {f : D → D → D} (hf : ∀ a y, f a y = a ∨ f a y = y) : ∀ (xs : List D) (x : D), xs.foldl f x ∈ x :: xs
  | [], x => List.mem_cons_self
  | y :: ys, x => by
    rw [List.foldl_cons]
    rcases List.mem_cons.mp (mem_fold hf ys (f x y)) with e | e
    · rcases hf x y with h | h
      · rw [e, h]; exact List.mem_cons_self
      · rw [e, h]; exact List.mem_cons_of_mem _ List.mem_cons_self
    · exact List.mem_cons_of_mem _ (List.mem_cons_of_mem _ e)
theorem pls_mem {ds : List D} (p : D.pls ds) : ∀ d ∈ ds, d.pl := by
  induction ds with
  | nil => intro d hd; cases hd
  | cons e es ih =>
    simp only [D.pls, D.pys, PyData.plainAll, Bool.and_eq_true] at p
    intro d hd
    rcases List.mem_cons.mp hd with rfl | hd
    · exact p.1
    · exact ih p.2 d hd
def nBest (g : D → List D → D) : WN := ⟨fun ds M Q => ∃ d, ds = [d] ∧ itemsF d M fun xs => ∃ y ys, xs = y :: ys ∧ D.pls xs ∧ PySem.W.AlikeAll (D.pys xs) ∧ D.deps xs ≤ 60 ∧ Q (g y ys) M,
  fun ds M Q Q' h ⟨d, e, q⟩ => ⟨d, e, itemsF_mono (fun xs ⟨y, ys, e1, e2, e3, e4, q⟩ => ⟨y, ys, e1, e2, e3, e4, h _ _ q⟩) q⟩⟩
abbrev nMax : WN := nBest maxDD
abbrev nMin : WN := nBest minDD
/-- max(xs, default=d): the keyword's value stands last -/
def nBestD (g : D → List D → D) : WN := ⟨fun ds M Q => ∃ d e, ds = [d, e] ∧ itemsF d M fun xs => D.pls xs ∧ PySem.W.AlikeAll (D.pys xs) ∧ D.deps xs ≤ 60 ∧ Q (match xs with | [] => e | y :: ys => g y ys) M,
  fun ds M Q Q' h ⟨d, e, e0, q⟩ => ⟨d, e, e0, itemsF_mono (fun xs ⟨e2, e3, e4, q⟩ => ⟨e2, e3, e4, h _ _ q⟩) q⟩⟩
section
variable {X : Cx} {pins : List (Addr × Obj)} {σ : L2.St} {H : Hp} {s : Shared} {M : Mem}
/-- the walked list or tuple behind the items -/
theorem items_at (I : Inv X pins σ H s) (rm : RelM X.prog X.w X.K H M) {d : D} {x : V} {Q : List D → Prop} (rd : RelD X.K H d x) (q : itemsF d M Q) :
    ∃ a xs vs its, x = .ref a ∧ Q xs ∧ RelDs X.K H xs vs ∧ Vals vs its ∧ (s.heap.IsList a its.toArray ∨ s.heap.IsTuple a its.toArray) := by
  cases rd with
  | @tup a xs vs ht hr =>
    obtain ⟨its, r, hl, _⟩ := I.tuple ht.sq
    exact ⟨a, xs, vs, its, rfl, q, hr, r, .inr hl⟩
  | @fl a xs vs ht hr =>
    obtain ⟨its, r, hl, _⟩ := I.list ht.sq
    exact ⟨a, xs, vs, its, rfl, q, hr, r, .inl hl.isList⟩
  | ref a =>
    obtain ⟨xs, h0, q⟩ := q
    obtain ⟨vs, hH, hr⟩ := rm _ _ h0
    obtain ⟨its, r, hl, _⟩ := I.list (.inl (.inl hH))
    exact ⟨a, xs, vs, its, rfl, q, hr, r, .inl hl.isList⟩
  | _ => exact False.elim q
theorem best_at (I : Inv X pins σ H s) {xs : List D} {vs : List V} {its : List Value} (p : D.pls xs) (hr : RelDs X.K H xs vs) (r : Vals vs its) {i : Nat} {v : Value} {z : D} {h' : Heap} {bs : List Addr} (hv : its.toArray[i]? = some v) (hz : z ∈ xs) (rd : Reads h' v z.py bs)
    (hk : ∀ b o, s.heap.get? b = some o → h'.get? b = some o) : ∃ w, RelD X.K H z w ∧ RelV w v := by
  have hv2 : its[i]? = some v := by simpa using hv
  have hi : i < its.length := (List.getElem?_eq_some_iff.mp hv2).1
  have hvl := r.length
  obtain ⟨w, hw⟩ : ∃ w, vs[i]? = some w := ⟨_, List.getElem?_eq_getElem (by omega)⟩
  obtain ⟨u, hu1, hu2⟩ := r.get hw
  rw [hv2] at hu1; cases hu1
  obtain ⟨d, hd, rdw⟩ := hr.getV hw
  have hdm : d ∈ xs := List.mem_of_getElem? hd
  have pd := pls_mem p d hdm
  obtain ⟨as, g⟩ := Inv.rd I rdw pd hu2
  have g' := PyProof.Rows.Reads.keeps hk g
  have e1 := PySem.SeqAt.readOf_plain pd g'
  have e2 := PySem.SeqAt.readOf_plain (pls_mem p z hz) rd
  have e3 : d = z := py_inj d z pd (pls_mem p z hz) (by rw [← e1, ← e2])
  subst e3
  exact ⟨w, rdw, hu2⟩
theorem ite_or {a b : D} {c : Prop} [Decidable c] : (if c then b else a) = a ∨ (if c then b else a) = b := by split; exact .inr rfl; exact .inl rfl
theorem f_max (hc : X.calm = true) (hu : X.A.units + 64 < cLine) : DN X (.builtin "max") nMax := ⟨fun pins s σ H xs us Q I rx ⟨ds, M, Q', rds, rm, ⟨d, e, q⟩, po⟩ => by
  subst e
  obtain ⟨x, rfl, rd⟩ := rel1 rds
  obtain ⟨a, zs, vs, its, rfl, ⟨y, ys, rfl, p, al, hz, q⟩, hr, r, hl⟩ := items_at I rm rd q
  obtain ⟨u, rfl, ru⟩ := vals1 rx
  cases ru
  obtain ⟨as, g⟩ := Inv.rds I hr p r
  have hz' : PyData.depthAll (D.pys (y :: ys)) ≤ 60 := hz
  have fin : ∀ (i : Nat) (v : Value) (h' : Heap) (tk : Nat) (bs : List Addr), its.toArray[i]? = some v → Reads h' v (PySem.W.maxD y.py (D.pys ys)) bs → (∀ b o, s.heap.get? b = some o → h'.get? b = some o) → EP X pins σ Q v { s with heap := h', toks := tk } := fun i v h' tk bs hv rr hk => by
    rw [← maxDD_py] at rr
    obtain ⟨w, w1, w2⟩ := best_at I p hr r hv (mem_fold (fun a y => ite_or) ys y) rr hk
    exact ⟨w, H, I.kept hk, w2, po.here rm w1 q⟩
  rcases hl with hl | hl
  · exact PySem.W.max_list_data (x := y.py) (xs := D.pys ys) (I.ok.hd hc) hl g al (by have : PyData.depthAll (y.py :: D.pys ys) ≤ 60 := hz; omega) fin
  · exact PySem.W.max_tuple_data (x := y.py) (xs := D.pys ys) (I.ok.hd hc) hl g al (by have : PyData.depthAll (y.py :: D.pys ys) ≤ 60 := hz; omega) fin⟩
theorem f_min (hc : X.calm = true) (hu : X.A.units + 64 < cLine) : DN X (.builtin "min") nMin := ⟨fun pins s σ H xs us Q I rx ⟨ds, M, Q', rds, rm, ⟨d, e, q⟩, po⟩ => by
  subst e
  obtain ⟨x, rfl, rd⟩ := rel1 rds
  obtain ⟨a, zs, vs, its, rfl, ⟨y, ys, rfl, p, al, hz, q⟩, hr, r, hl⟩ := items_at I rm rd q
  obtain ⟨u, rfl, ru⟩ := vals1 rx
  cases ru
  obtain ⟨as, g⟩ := Inv.rds I hr p r
  have fin : ∀ (i : Nat) (v : Value) (h' : Heap) (tk : Nat) (bs : List Addr), its.toArray[i]? = some v → Reads h' v (PySem.W.minD y.py (D.pys ys)) bs → (∀ b o, s.heap.get? b = some o → h'.get? b = some o) → EP X pins σ Q v { s with heap := h', toks := tk } := fun i v h' tk bs hv rr hk => by
    rw [← minDD_py] at rr
    obtain ⟨w, w1, w2⟩ := best_at I p hr r hv (mem_fold (fun a y => ite_or) ys y) rr hk
    exact ⟨w, H, I.kept hk, w2, po.here rm w1 q⟩
  rcases hl with hl | hl
  · exact PySem.W.min_list_data (x := y.py) (xs := D.pys ys) (I.ok.hd hc) hl g al (by have : PyData.depthAll (y.py :: D.pys ys) ≤ 60 := hz; omega) fin
  · exact PySem.W.min_tuple_data (x := y.py) (xs := D.pys ys) (I.ok.hd hc) hl g al (by have : PyData.depthAll (y.py :: D.pys ys) ≤ 60 := hz; omega) fin⟩
end
end MP

namespace MP
open PySem PySem.Spec PyProof.Rows L2

/-! ### max(xs, default=d) -/
structure WK where
  f : List D → List D → Mem → (D → Mem → Prop) → Prop
  mono : ∀ ds es M Q Q', (∀ d M, Q d M → Q' d M) → f ds es M Q → f ds es M Q'
def lK (P : Program) (w : World) (K : PySem.W.Frag) (r : WK) : List V → List V → Hp → VK → Prop := fun xs zs H Q => ∃ ds es M Q', RelDs K H ds xs ∧ RelDs K H es zs ∧ RelM P w K H M ∧ r.f ds es M Q' ∧ Post P w K H M Q' Q
structure DNK (X : Cx) (f : Value) (ks : List Str) (r : WK) : Prop where
  op : CallRK X f ks (lK X.prog X.w X.K r)
structure DKw (X : Cx) (kws : List Keyword) (t : WA) : Prop where
  pk : PK X kws (lA X.prog X.w X.K t)
theorem PK.imp {X : Cx} {e : List Keyword} {t u : TA} (h : PK X e t) (i : ∀ σ H Q, u σ H Q → t σ H Q) : PK X e u := ⟨fun pos pins s σ H Q I q => h.run pos pins s σ H Q I (i _ _ _ q)⟩
def wCK (r : WK) (t tk : WA) : WE := ⟨fun ρ M Q => t.f ρ M fun ds M1 => tk.f ρ M1 fun es M2 => r.f ds es M2 Q, fun ρ M Q Q' h q => t.mono _ _ _ _ (fun _ _ q => tk.mono _ _ _ _ (fun _ _ q => r.mono _ _ _ _ _ h q) q) q⟩
def bestD (g : D → List D → D) (e : D) : List D → D
  | [] => e
  | y :: ys => g y ys
def kBestD (g : D → List D → D) : WK := ⟨fun ds es M Q => ∃ d e, ds = [d] ∧ es = [e] ∧ itemsF d M fun xs => D.pls xs ∧ PySem.W.AlikeAll (D.pys xs) ∧ D.deps xs ≤ 60 ∧ Q (bestD g e xs) M,
  fun ds es M Q Q' h q => by
    obtain ⟨d, e, e0, e1, q⟩ := q
    exact ⟨d, e, e0, e1, itemsF_mono (fun xs ⟨e2, e3, e4, q⟩ => ⟨e2, e3, e4, h _ _ q⟩) q⟩⟩
abbrev kMaxD : WK := kBestD maxDD
abbrev kMinD : WK := kBestD minDD
section
variable {X : Cx} {x : Str} {p pos : Pos} {e : Expr} {es : List Expr} {kws : List Keyword} {t tk : WA} {id : String} {ks : List Str} {r : WK} {we : WE} {nm : Option Str} {kpos : Pos}
theorem dk_nil : DKw X [] aNil := ⟨PK.imp pk_nil fun σ H Q ⟨ρ, M, Q', rs, rm, q, po⟩ => po [] [] H M Step.refl rm .nil q⟩
theorem dk_cons (ha : DE X e we) (hr : DKw X kws t) : DKw X (⟨nm, e, kpos⟩ :: kws) (aCons we t) :=
  ⟨PK.imp (pk_cons ha.pe hr.pk) fun σ H Q ⟨ρ, M, Q', rs, rm, q, po⟩ => ⟨ρ, M, _, rs, rm, q, fun x d H1 M1 s1 m1 r1 q1 => ⟨ρ, M1, _, rs.keep (s1.keep rm), m1, q1, fun vs ds H2 M2 s2 m2 r2 q2 =>
    po (x :: vs) (d :: ds) H2 M2 (s1.trans s2) m2 (.cons (r1.keep (s2.keep m1)) r2) q2⟩⟩⟩
theorem de_callBK (hc : DNK X (.builtin id) ks r) (hg : Gl X x) (hm : X.mg x = none) (hv : bootBuiltins x = some (.builtin id)) (ha : DA X (e :: es) t) (hk : DKw X kws tk) (hn : x ≠ "__name__" := by decide) (hdb : (x == ("__debug__" : Str)) = false := by decide)
    (he : backTo pos (starEach (e :: es) X.env) = (false, eval e X.env) :: backTo pos (starEach es X.env) := by rfl) (hpl : (backTo pos (starEach (e :: es) X.env)).any (·.1) = false := by rfl)
    (hall : (backToKw pos (keywordEach kws X.env)).all (·.1.isSome) = true := by rfl) (hnone : (backToKw pos (keywordEach kws X.env)).any (·.1.isNone) = false := by rfl) (hks : (backToKw pos (keywordEach kws X.env)).filterMap (·.1) = ks := by rfl) :
    DE X (.Call (.Name x p) (e :: es) kws pos) (wCK r t tk) :=
  ⟨PE.imp (pe_callBK hc.op hg hm hv ha.pa hk.pk hn hdb he hpl hall hnone hks) fun σ H Q ⟨ρ, M, Q', rs, rm, q, po⟩ => ⟨ρ, M, _, rs, rm, q, fun vs ds H1 M1 s1 m1 r1 q1 => ⟨ρ, M1, _, rs.keep (s1.keep rm), m1, q1, fun zs es' H2 M2 s2 m2 r2 q2 =>
    ⟨ds, es', M2, Q', r1.keep (s2.keep m1), r2, m2, q2, (po.after s1).after s2⟩⟩⟩⟩
end
section
variable {X : Cx}
theorem f_maxD (hc : X.calm = true) (hu : X.A.units + 64 < cLine) : DNK X (.builtin "max") [Str.ofString "default"] kMaxD := ⟨fun pins s σ H xs zs us ws Q I rx rz ⟨ds, es, M, Q', rds, res, rm, ⟨d, e, e0, e1, q⟩, po⟩ => by
  subst e0 e1
  obtain ⟨x, rfl, rd⟩ := rel1 rds
  obtain ⟨z, rfl, re⟩ := rel1 res
  obtain ⟨a, xs, vs, its, rfl, ⟨p, al, hz, q⟩, hr, r, hl⟩ := items_at I rm rd q
  obtain ⟨u, rfl, ru⟩ := vals1 rx
  cases ru
  obtain ⟨w1, rfl, rw1⟩ := vals1 rz
  obtain ⟨as, g⟩ := Inv.rds I hr p r
  have fin0 : D.pys xs = [] → ∀ (h' : Heap) (tk : Nat), (∀ b o, s.heap.get? b = some o → h'.get? b = some o) → EP X pins σ Q w1 { s with heap := h', toks := tk } := fun hx h' tk hk => by
    have : xs = [] := by cases xs with | nil => rfl | cons y ys => simp [D.pys] at hx
    subst this
    exact ⟨z, H, I.kept hk, rw1, po.here rm re q⟩
  have fin : ∀ (y : PyData) (ys : List PyData) (i : Nat) (v : Value) (h' : Heap) (tk : Nat) (bs : List Addr), D.pys xs = y :: ys → its.toArray[i]? = some v → Reads h' v (PySem.W.maxD y ys) bs → (∀ b o, s.heap.get? b = some o → h'.get? b = some o) → EP X pins σ Q v { s with heap := h', toks := tk } := fun y ys i v h' tk bs hx hv rr hk => by
    cases xs with
    | nil => simp [D.pys] at hx
    | cons y' ys' =>
      simp only [D.pys, List.cons.injEq] at hx
      obtain ⟨rfl, rfl⟩ := hx
      rw [← maxDD_py] at rr
      obtain ⟨w, w1, w2⟩ := best_at I p hr r hv (mem_fold (fun a y => ite_or) ys' y') rr hk
      exact ⟨w, H, I.kept hk, w2, po.here rm w1 q⟩
  rcases hl with hl | hl
  · exact PySem.W.max_list_default (I.ok.hd hc) hl g al (by have : PyData.depthAll (D.pys xs) ≤ 60 := hz; omega) fin0 fin
  · exact PySem.W.max_tuple_default (I.ok.hd hc) hl g al (by have : PyData.depthAll (D.pys xs) ≤ 60 := hz; omega) fin0 fin⟩
theorem f_minD (hc : X.calm = true) (hu : X.A.units + 64 < cLine) : DNK X (.builtin "min") [Str.ofString "default"] kMinD := ⟨fun pins s σ H xs zs us ws Q I rx rz ⟨ds, es, M, Q', rds, res, rm, ⟨d, e, e0, e1, q⟩, po⟩ => by
  subst e0 e1
  obtain ⟨x, rfl, rd⟩ := rel1 rds
  obtain ⟨z, rfl, re⟩ := rel1 res
  obtain ⟨a, xs, vs, its, rfl, ⟨p, al, hz, q⟩, hr, r, hl⟩ := items_at I rm rd q
  obtain ⟨u, rfl, ru⟩ := vals1 rx
  cases ru
  obtain ⟨w1, rfl, rw1⟩ := vals1 rz
  obtain ⟨as, g⟩ := Inv.rds I hr p r
  have fin0 : D.pys xs = [] → ∀ (h' : Heap) (tk : Nat), (∀ b o, s.heap.get? b = some o → h'.get? b = some o) → EP X pins σ Q w1 { s with heap := h', toks := tk } := fun hx h' tk hk => by
    have : xs = [] := by cases xs with | nil => rfl | cons y ys => simp [D.pys] at hx
    subst this
    exact ⟨z, H, I.kept hk, rw1, po.here rm re q⟩
  have fin : ∀ (y : PyData) (ys : List PyData) (i : Nat) (v : Value) (h' : Heap) (tk : Nat) (bs : List Addr), D.pys xs = y :: ys → its.toArray[i]? = some v → Reads h' v (PySem.W.minD y ys) bs → (∀ b o, s.heap.get? b = some o → h'.get? b = some o) → EP X pins σ Q v { s with heap := h', toks := tk } := fun y ys i v h' tk bs hx hv rr hk => by
    cases xs with
    | nil => simp [D.pys] at hx
    | cons y' ys' =>
      simp only [D.pys, List.cons.injEq] at hx
      obtain ⟨rfl, rfl⟩ := hx
      rw [← minDD_py] at rr
      obtain ⟨w, w1, w2⟩ := best_at I p hr r hv (mem_fold (fun a y => ite_or) ys' y') rr hk
      exact ⟨w, H, I.kept hk, w2, po.here rm w1 q⟩
  rcases hl with hl | hl
  · exact PySem.W.min_list_default (I.ok.hd hc) hl g al (by have : PyData.depthAll (D.pys xs) ≤ 60 := hz; omega) fin0 fin
  · exact PySem.W.min_tuple_default (I.ok.hd hc) hl g al (by have : PyData.depthAll (D.pys xs) ≤ 60 := hz; omega) fin0 fin⟩
end

/-! ### own defs -/
/-- what a def promises, as HandS takes it -/
def lSp (P : Program) (w : World) (K : PySem.W.Frag) (r : WN) : Sp := fun vs H Q _ => lN P w K r vs H Q
/-- what is known of M' (more) is enough for M'' (less, or told otherwise) -/
def Vw (P : Program) (w : World) (K : PySem.W.Frag) (M' M'' : Mem) : Prop := (∀ a, M' a = none → M'' a = none) ∧ ∀ H, RelM P w K H M' → RelM P w K H M''
def Fin (P : Program) (w : World) (K : PySem.W.Frag) (Q : D → Mem → Prop) (d : D) (M' : Mem) : Prop := ∃ M'', Vw P w K M' M'' ∧ Q d M''
def startD (n : Nat) (ds : List D) : Sl := ds.map some ++ List.replicate (n - ds.length) none
def enD (P : Program) (w : World) (K : PySem.W.Frag) (Q : D → Mem → Prop) : DEn := { nx := fun _ M' => Fin P w K Q .non M', rt := Fin P w K Q }
/-- THE PLAIN LAW of a def: its body keeps its promise -/
def FnLaw (n k : Nat) (b : WS) (r : WN) : Prop := ∀ (P : Program) (w : World) (K : PySem.W.Frag) (H : Hp) (ds : List D) (M : Mem) (Q : D → Mem → Prop), RelM P w K H M → r.f ds M Q →
  ds.length = k ∧ ∃ M0, RelM P w K H M0 ∧ (∀ a, M a = none → M0 a = none) ∧ b.f (enD P w K Q) (startD n ds) M0
/-- a def that may be called by its name -/
structure Cal (P : Program) (w : World) (K : PySem.W.Frag) (mg : Str → Option Value) (base : Heap) (k : Nat) (x : Str) (r : WN) : Prop where
  ex : ∃ (f : Addr) (fd : FuncData) (ps : List Str), FnOk P w K mg base C8.CX0 k f fd ps (lSp P w K r) ∧ mg x = some (.ref f) ∧ PySem.W.keepIn K (.ref f) = true ∧ Binds K fd ps []
theorem relS_start {K : PySem.W.Frag} {H : Hp} {N : List Str} {ds : List D} {vs : List V} (r : RelDs K H ds vs) : RelS K H (startD N.length ds) (L2.start N vs) := by
  have hl := r.length
  refine ⟨by unfold startD L2.start; simp only [List.length_append, List.length_map, List.length_replicate]; omega, fun i d e => ?_⟩
  unfold startD at e
  by_cases hi : i < ds.length
  · rw [List.getElem?_append_left (by rw [List.length_map]; exact hi), List.getElem?_map] at e
    obtain ⟨d', h1, h2⟩ := Option.map_eq_some_iff.mp e
    cases h2
    obtain ⟨v, h3, h4⟩ := r.get h1
    exact ⟨v, by unfold L2.start; rw [List.getElem?_append_left (by rw [List.length_map]; omega), List.getElem?_map, h3]; rfl, h4⟩
  · rw [List.getElem?_append_right (by rw [List.length_map]; omega), List.getElem?_replicate] at e
    split at e <;> cases e
section
variable {P : Program} {w : World} {K : PySem.W.Frag} {mg : Str → Option Value} {base : Heap} {x qual : Str} {params : Arguments} {body : List Stmt} {scope : Scope} {f : Addr} {fd : FuncData} {N ps : List Str} {k : Nat} {b : WS} {r : WN}
theorem fnok (F : FunD K x qual params body scope [] [] f fd) (S : FnScope N ps scope) (law : FnLaw N.length ps.length b r)
    (hb : ∀ (cdv : Value) (A : Around) (outer : List Env) (s : Shared) (H : Hp) (E : XK), Room k (A.deeper (envOfC qual scope s.heap.objs.size f cdv)) → DSs (cxOf C8.CX0 P w K mg base N qual scope f cdv A outer s H E) body b) :
    FnOk P w K mg base C8.CX0 (k + 1) f fd ps (lSp P w K r) := by
  refine F.ok S (fun vs H Q E ⟨ds, M, Q', rds, rm, q, po⟩ => ?_) fun cdv A outer s H vs Q E hr ⟨ds, M, Q', rds, rm, q, po⟩ => ⟨_, (hb cdv A outer s H E hr).pss, ?_⟩
  · rw [← rds.length]; exact (law P w K H ds M Q' rm q).1
  · obtain ⟨_, M0, rm0, hM0, q0⟩ := law P w K H ds M Q' rm q
    have st : ∀ {H' M' M''}, Step H M0 H' M' → Vw P w K M' M'' → Step H M H' M'' := fun s1 v a o h m => let ⟨h1, m1⟩ := s1 a o h (hM0 a m); ⟨h1, v.1 a m1⟩
    refine ⟨startD N.length ds, M0, enD P w K Q', relS_start rds, rm0, q0, ⟨fun σ ρ H' M' s1 m1 r1 q1 => ?_, fun v d H' M' s1 m1 r1 q1 => ?_, fun _ _ _ _ _ _ _ z => z, fun _ _ _ _ _ _ _ z => z⟩⟩
    · obtain ⟨M'', vw, q2⟩ := q1
      exact po .non .non H' M'' (st s1 vw) (vw.2 _ m1) .non q2
    · obtain ⟨M'', vw, q2⟩ := q1
      exact po v d H' M'' (st s1 vw) (vw.2 _ m1) r1 q2
theorem cal_of (F : FunD K x qual params body scope [] [] f fd) (S : FnScope N ps scope) (hm : mg x = some (.ref f)) (bd : Binds K fd ps []) (law : FnLaw N.length ps.length b r)
    (hb : ∀ (cdv : Value) (A : Around) (outer : List Env) (s : Shared) (H : Hp) (E : XK), Room k (A.deeper (envOfC qual scope s.heap.objs.size f cdv)) → DSs (cxOf C8.CX0 P w K mg base N qual scope f cdv A outer s H E) body b) :
    Cal P w K mg base (k + 1) x r := ⟨f, fd, ps, fnok F S law hb, hm, F.kp, bd⟩
theorem Cal.imp {r r' : WN} (c : Cal P w K mg base k x r) (h : ∀ ds M Q, r'.f ds M Q → r.f ds M Q) : Cal P w K mg base k x r' := by
  obtain ⟨f, fd, ps, F, hm, kp, b⟩ := c.ex
  exact ⟨f, fd, ps, F.imp fun vs H Q E ⟨ds, M, Q', rds, rm, q, po⟩ => ⟨ds, M, Q', rds, rm, h _ _ _ q, po⟩, hm, kp, b⟩
end
section
variable {X : Cx} {k j : Nat} {x : Str} {r : WN} {p pos : Pos} {e : Expr} {es : List Expr} {t : WA}
theorem de_call (c : Cal X.prog X.w X.K X.mg X.base k x r) (hr : Room j X.A) (hk : k ≤ j) (hg : Gl X x) (ha : DA X (e :: es) t)
    (hdb : (x == ("__debug__" : Str)) = false := by decide) (he : starEach (e :: es) X.env = (false, eval e X.env) :: starEach es X.env := by rfl) (hpl : (backTo pos (starEach es X.env)).any (·.1) = false := by rfl) :
    DE X (.Call (.Name x p) (e :: es) [] pos) (wCB r t) := by
  obtain ⟨f, fd, ps, F, hm, kp, b⟩ := c.ex
  exact ⟨PE.imp (pe_call F (hr.mono hk) hg hm kp b .nil C8.pass0 (E := C8.E0) ha.pa hdb he hpl) fun σ H Q ⟨ρ, M, Q', rs, rm, q, po⟩ => ⟨ρ, M, _, rs, rm, q, fun vs ds H1 M1 s1 m1 r1 q1 => by
    show lSp X.prog X.w X.K r (vs ++ []) H1 Q C8.E0
    rw [List.append_nil]
    exact ⟨ds, M1, Q', r1, m1, q1, po.after s1⟩⟩⟩
theorem de_call0 (c : Cal X.prog X.w X.K X.mg X.base k x r) (hr : Room j X.A) (hk : k ≤ j) (hg : Gl X x) (hdb : (x == ("__debug__" : Str)) = false := by decide) : DE X (.Call (.Name x p) [] [] pos) (wCB r aNil) := by
  obtain ⟨f, fd, ps, F, hm, kp, b⟩ := c.ex
  exact ⟨PE.imp (pe_call0 F (hr.mono hk) hg hm kp b .nil C8.pass0 (E := C8.E0) hdb) fun σ H Q ⟨ρ, M, Q', rs, rm, q, po⟩ => ⟨[], M, Q', .nil, rm, q, po⟩⟩
end
end MP

namespace MP
open PySem PySem.Spec PyProof.Rows L2

/-! ### a value's truth -/
def truF (d : D) (M : Mem) (Q : Bool → Prop) : Prop := match d with
  | .non => Q false
  | .bl b => Q b
  | .int i => Q (i != 0)
  | .str z => z.length ≤ sizeLine ∧ Q ((z.length : Int) != 0)
  | .tup xs => Q (!xs.isEmpty)
  | .fl xs => Q (!xs.isEmpty)
  | .ref a => (∃ xs, M a = some (.lst xs) ∧ Q (!xs.isEmpty)) ∨ ∃ kvs, M a = some (.dic kvs) ∧ (∀ p ∈ kvs, p.1.pkey.isSome = true) ∧ Q (!kvs.isEmpty)
  | _ => False
theorem truF_mono {d : D} {M : Mem} {Q Q' : Bool → Prop} (h : ∀ b, Q b → Q' b) (q : truF d M Q) : truF d M Q' := by
  cases d <;> first
    | exact q.elim
    | exact h _ q
    | exact ⟨q.1, h _ q.2⟩
    | (rcases q with ⟨xs, e, q⟩ | ⟨xs, e, e2, q⟩
       · exact .inl ⟨xs, e, h _ q⟩
       · exact .inr ⟨xs, e, e2, h _ q⟩)
/-- a value as a test, whatever it is -/
def wtV (a : WE) : WT := ⟨fun ρ M Q => a.f ρ M fun d M1 => truF d M1 fun b => Q b M1, fun ρ M Q Q' h q => a.mono _ _ _ _ (fun _ _ q => truF_mono (fun b => h b _) q) q⟩
theorem emp_rel {K : PySem.W.Frag} {H : Hp} {ds : List D} {vs : List V} (r : RelDs K H ds vs) : vs.isEmpty = ds.isEmpty := by cases r <;> rfl
section
variable {X : Cx} {a : Expr} {wa : WE}
theorem dt_tru (h : DE X a wa) (he : ∀ whole, isTrue a X.env whole = (do let v ← whole; standAt a.pos; holding [v] (truthy v)) := by intro _; rfl) : DT X a (wtV wa) :=
  ⟨PT.imp (pt_truth h.pe he) fun σ H Q ⟨ρ, M, Q', rs, rm, q, po⟩ => ⟨ρ, M, _, rs, rm, q, fun v d H1 M1 s1 m1 r1 q1 => by
    cases r1 with
    | non => exact ⟨false, rfl, po _ H1 M1 s1 m1 q1⟩
    | bl b => exact ⟨b, rfl, po _ H1 M1 s1 m1 q1⟩
    | int i => exact ⟨_, rfl, po _ H1 M1 s1 m1 q1⟩
    | str z => exact ⟨_, ⟨q1.1, rfl⟩, po _ H1 M1 s1 m1 q1.2⟩
    | tup ht hr => exact ⟨_, .inr (.inl ⟨_, ht.sq, rfl⟩), po _ H1 M1 s1 m1 (by rw [emp_rel hr]; exact q1)⟩
    | fl ht hr => exact ⟨_, .inl ⟨_, ht.sq, rfl⟩, po _ H1 M1 s1 m1 (by rw [emp_rel hr]; exact q1)⟩
    | ref p =>
      rcases q1 with ⟨xs, h0, q1⟩ | ⟨kvs, h0, hp, q1⟩
      · obtain ⟨vs, hH, hr⟩ := m1 _ _ h0
        exact ⟨_, .inl ⟨_, .inl (.inl hH), rfl⟩, po _ H1 M1 s1 m1 (by rw [emp_rel hr]; exact q1)⟩
      · obtain ⟨L, hH, e1, e2⟩ := dic_k m1 h0 hp
        refine ⟨_, .inr (.inr ⟨L, hH, rfl⟩), po _ H1 M1 s1 m1 ?_⟩
        have : L.isEmpty = kvs.isEmpty := by
          cases kvs <;> cases L <;> first | rfl | simp at e1
        rw [this]; exact q1
    | ty n => exact q1.elim⟩⟩
end

/-! ### dict comprehensions, keys ints or texts -/
def dcF (g : WG) (tt : WT) (tk te : WE) (stay : Mem → Prop) (ρ : Sl) (Q : D → Mem → Prop) : List D → List (D × D) → Mem → Prop
  | [], acc, M => stay M ∧ ∀ p, M p = none → Q (.ref p) (mupd M p (.dic acc))
  | x :: xs, acc, M => stay M ∧ g.f x ρ M fun ρ2 M2 => tt.f ρ2 M2 fun b M3 => (b = true → tk.f ρ2 M3 fun k M4 => te.f ρ2 M4 fun y M5 => k.pkey.isSome = true ∧ acc.length < sizeLine ∧ dcF g tt tk te stay ρ Q xs (dputD acc k y) M5) ∧ (b = false → dcF g tt tk te stay ρ Q xs acc M3)
theorem dcF_mono {g : WG} {tt : WT} {tk te : WE} {stay : Mem → Prop} {ρ : Sl} {Q Q' : D → Mem → Prop} (h : ∀ d M, Q d M → Q' d M) : ∀ (xs : List D) (acc : List (D × D)) (M : Mem), dcF g tt tk te stay ρ Q xs acc M → dcF g tt tk te stay ρ Q' xs acc M
  | [], _, _, q => ⟨q.1, fun p hp => h _ _ (q.2 p hp)⟩
  | x :: xs, acc, M, q => ⟨q.1, g.mono _ _ _ _ _ (fun ρ2 M2 q => tt.mono _ _ _ _ (fun b M3 q => ⟨fun e => tk.mono _ _ _ _ (fun k M4 q => te.mono _ _ _ _ (fun y M5 q => ⟨q.1, q.2.1, dcF_mono h xs _ _ q.2.2⟩) q) (q.1 e), fun e => dcF_mono h xs _ _ (q.2 e)⟩) q) q.2⟩
def wDc (wi : WI) (g : WG) (tt : WT) (tk te : WE) (vs : List Nat) : WE := ⟨fun ρ M Q => wi.f ρ M fun items stay M1 => dcF g tt tk te stay (wipeD ρ vs) Q items [] M1,
  fun ρ M Q Q' h q => wi.mono _ _ _ _ (fun ds st M q => dcF_mono h ds [] M q) q⟩
def EntK (K : PySem.W.Frag) (H : Hp) (kvs : List (D × D)) (L : List (Key × V)) : Prop := kvs.map (fun p => p.1.pkey) = L.map (fun p => some p.1) ∧ RelDs K H (kvs.map (·.2)) (L.map (·.2))
theorem EntK.keep {K : PySem.W.Frag} {H H' : Hp} {kvs : List (D × D)} {L : List (Key × V)} (k : Keep H H') (e : EntK K H kvs L) : EntK K H' kvs L := ⟨e.1, e.2.keep k⟩
theorem dc_imp {P : Program} {w : World} {K : PySem.W.Frag} {wi : WI} {g : WG} {tt : WT} {tk te : WE} {vs : List Nat} (hsl : ∀ i ∈ g.sl, i ∈ vs) (σ : L2.St) (H : Hp) (Q : VK) (h : lE P w K (wDc wi g tt tk te vs) σ H Q) :
    tDc (lI P w K wi) (lG P w K g) (lT P w K tt) (lE P w K tk) (lE P w K te) vs σ H Q := by
  obtain ⟨ρ, M, Q', rs, rm, q, po⟩ := h
  refine ⟨ρ, M, _, rs, rm, q, fun J items stay H1 M1 s1 m1 q1 ok Dd hD => ?_⟩
  refine ⟨fun i m H2 => i + m = items.length ∧ ∃ M2 acc L, H2 Dd = some (.dK L) ∧ M2 Dd = none ∧ EntK K H2 acc L ∧ Step H1 M1 H2 M2 ∧ RelM P w K H2 M2 ∧ dcF g tt tk te stay (wipeD ρ vs) Q' (items.drop i) acc M2,
    ⟨items.length, by omega, M1, [], [], upd_same, m1.free hD, ⟨rfl, .nil⟩, Step.beside hD, m1.beside hD, by rw [List.drop_zero]; exact q1⟩, ?_⟩
  rintro i m H2 ⟨hm, M2, acc, L, hDd, hMd, racc, s2, m2, q2⟩
  by_cases hi : i < items.length
  · right
    rw [List.drop_eq_getElem_cons hi] at q2
    obtain ⟨sy, q2⟩ := q2
    obtain ⟨_, k2⟩ := ok i H2 M2 (s2.keep m1) m2 sy
    obtain ⟨go, yl⟩ := k2 _ (List.getElem?_eq_getElem hi)
    refine ⟨go, fun H' => ∃ M' acc L, H' Dd = some (.dK L) ∧ M' Dd = none ∧ EntK K H' acc L ∧ Step H1 M1 H' M' ∧ RelM P w K H' M' ∧ dcF g tt tk te stay (wipeD ρ vs) Q' (items.drop (i + 1)) acc M', fun H' h => ⟨m - 1, by omega, by omega, h⟩, fun x H' hy => ?_⟩
    obtain ⟨s3, m3, r3⟩ := yl x H' hy
    have rsw := (rs.keep ((s1.trans (s2.trans s3)).keep rm)).wipe vs
    refine ⟨_, wipeD ρ vs, M2, _, r3, rsw, m3, q2, fun σ4 ρ4 H4 M4 s4 m4 r4 ss4 q4 => ⟨wipe_same ss4 hsl, ρ4, M4, _, r4, m4, q4, fun b H5 M5 s5 m5 q5 => ?_⟩⟩
    have s25 := s3.trans (s4.trans s5)
    obtain ⟨hD5, hM5⟩ := s25 Dd _ hDd hMd
    cases b with
    | false => exact iteF ⟨M5, acc, L, hD5, hM5, racc.keep (s25.keep m2), s2.trans s25, m5, q5.2 rfl⟩
    | true =>
      refine iteT ⟨ρ4, M5, _, r4.keep (s5.keep m4), m5, q5.1 rfl, fun kv kd H6 M6 s6 m6 r6 q6 => ⟨ρ4, M6, _, r4.keep ((s5.trans s6).keep m4), m6, q6, fun v d H7 M7 s7 m7 r7 q7 => ?_⟩⟩
      have s27 := s25.trans (s6.trans s7)
      obtain ⟨hD7, hM7⟩ := s27 Dd _ hDd hMd
      obtain ⟨p1, p2, q7⟩ := q7
      obtain ⟨k, hk⟩ := Option.isSome_iff_exists.mp p1
      have racc7 := racc.keep (s27.keep m2)
      have hl : acc.length = L.length := by have := congrArg List.length racc.1; rw [List.length_map, List.length_map] at this; exact this
      have kW := m7.hidW (u := .dK (putK L k v)) hD7 hM7 trivial
      refine ⟨L, k, pkey_rel hk (r6.keep (s7.keep m6)), hD7, by rw [← hl]; exact p2, M7, dputD acc kd d, putK L k v, upd_same, hM7, ?_, ?_, kW.1, q7⟩
      · have := putK_rel hk racc7.1 racc7.2 r7
        exact ⟨this.1, this.2.keep kW.2⟩
      · intro a o ha hma
        obtain ⟨h1, h2⟩ := (s2.trans s27) a o ha hma
        have ne : a ≠ Dd := fun z => by subst z; rw [hD] at ha; cases ha
        exact ⟨by rw [upd_ne ne]; exact h1, h2⟩
  · left
    rw [List.drop_of_length_le (by omega)] at q2
    obtain ⟨sy, q2⟩ := q2
    refine ⟨(ok i H2 M2 (s2.keep m1) m2 sy).1 (by omega), po (.ref Dd) (.ref Dd) H2 (mupd M2 Dd (.dic acc)) ?_ ?_ (.ref Dd) (q2 Dd hMd)⟩
    · intro a o ha hma
      obtain ⟨h1, h2⟩ := s1 a o ha hma
      obtain ⟨h3, h4⟩ := s2 a o h1 h2
      have ne : a ≠ Dd := fun z => by subst z; rw [hD] at h1; cases h1
      exact ⟨h3, by rw [mupd_ne ne]; exact h4⟩
    · intro a o ha
      by_cases e : a = Dd
      · subst e; rw [mupd_same] at ha; cases ha; exact .inl ⟨L, hDd, racc.1, racc.2⟩
      · rw [mupd_ne e] at ha
        exact RelO.step m2 ⟨fun _ _ h => h, fun _ _ _ h => h⟩ (m2 a o ha) (fun _ _ => rfl) ha fun b _ hb => by
          rw [mupd_ne (fun z => by rw [z, hMd] at hb; cases hb)]; exact hb
section
variable {X : Cx}
theorem de_dc {kx vx tg iter : Expr} {ifs : List Expr} {scope : Scope} {own : List (Str × Nat)} {pos : Pos} {wi : WI} {g : WG} {tt : WT} {tk te : WE} (hc : X.calm = true) (hN : X.N.Nodup) (hi : DI X tg iter wi) (ok : BlkOk X.N X.env.scope scope own)
    (hg : ∀ (s : Shared) (H : Hp) (C : Addr) (cl : List (Str × Addr)) (fp : List Addr), DG (X.blk s H scope (compEnvC scope cl C X.env) fp) tg g) (ht : ∀ (s : Shared) (H : Hp) (C : Addr) (cl : List (Str × Addr)) (fp : List Addr), DTs (X.blk s H scope (compEnvC scope cl C X.env) fp) ifs tt)
    (hk : ∀ (s : Shared) (H : Hp) (C : Addr) (cl : List (Str × Addr)) (fp : List Addr), DE (X.blk s H scope (compEnvC scope cl C X.env) fp) kx tk)
    (he : ∀ (s : Shared) (H : Hp) (C : Addr) (cl : List (Str × Addr)) (fp : List Addr), DE (X.blk s H scope (compEnvC scope cl C X.env) fp) vx te) (hsl : ∀ i ∈ g.sl, i ∈ own.map (·.2) := by decide) (hs : ∀ x, foldedSetIterable iter X.env x = pure x := by intro _; rfl) :
    DE X (.DictComp kx vx [⟨tg, iter, ifs, 0⟩] scope pos) (wDc wi g tt tk te (own.map (·.2))) :=
  ⟨PE.imp (pe_dc hc hN hi.pi ok (fun s H C cl fp => (hg s H C cl fp).pg) (fun s H C cl fp => (ht s H C cl fp).pts) (fun s H C cl fp => (hk s H C cl fp).pe) (fun s H C cl fp => (he s H C cl fp).pe) hs) (dc_imp hsl)⟩
/-- a dict comprehension whose dict goes straight to a local name (both stand on one row) -/
theorem swd_true {kx vx : Expr} {gs : List Comprehension} {sc : Scope} {p1 p2 : Pos} {y : Str} {n : Nat} {env : Env} (h1 : env.scope.kind = .function) (h2 : env.scope.names.lookup y = some .local) (h3 : (p2.line == p1.line) = true)
    (h4 : (sc.names.any fun (m, k) => m == y && (k == .local || k == .cell)) = false) : swapsWith (.DictComp kx vx gs sc p1) (some (.Name y p2)) n env = pure true := by
  have e1 : env.kindOf y = some .local := h2
  have e2 : env.blockKind = .function := by unfold Env.blockKind; rw [h1]; rfl
  unfold swapsWith
  simp only [e2, e1, h4, Expr.pos, h3]
  rfl
/-- a block's frame may go once the name has its value -/
theorem block_left {pins : List (Addr × Obj)} {σ : L2.St} {H : Hp} {s s' : Shared} {C : Addr} {m : Str → Option Value} {y : Str} (f : FpOk X pins H C) (hn : s.heap.Ns C m) (I : Inv X pins σ H s')
    (h : ∃ a, Heap.SameBut a s.heap s'.heap ∧ (a = X.env.locals ∨ X.env.cells.lookup y = some a)) : ∃ m', s'.heap.Ns C m' ∧ ∀ h', Heap.SameBut C s'.heap h' → Inv X pins σ H { s' with heap := h' } := by
  obtain ⟨a, same, which⟩ := h
  have apart : C ≠ a := which.elim (fun e => by rw [e]; exact f.2.1) (fun e => (f.2.2.2.2.1 y a e).symm)
  exact ⟨m, hn.sameBut same apart, fun h' sb => I.turned (t' := s'.toks) (fun b o hb e => (sb.2 b hb).trans e) f.1 f.2.1 f.2.2.2.1 f.2.2.2.2.1 f.2.2.2.2.2⟩
theorem ds_setDc {i : Nat} {y : Str} {py pos spos : Pos} {kx vx tg iter : Expr} {ifs : List Expr} {scope : Scope} {own : List (Str × Nat)} {wi : WI} {g : WG} {tt : WT} {tk te : WE} (hc : X.calm = true) (hN : X.N.Nodup) (hy : X.N[i]? = some y) (hyl : X.env.scope.names.lookup y = some .local)
    (hsw : swapsWith (.DictComp kx vx [⟨tg, iter, ifs, 0⟩] scope pos) (some (.Name y py)) spos.line X.env = pure true) (hi : DI X tg iter wi) (ok : BlkOk X.N X.env.scope scope own)
    (hg : ∀ (s : Shared) (H : Hp) (C : Addr) (cl : List (Str × Addr)) (fp : List Addr), DG (X.blk s H scope (compEnvC scope cl C X.env) fp) tg g) (ht : ∀ (s : Shared) (H : Hp) (C : Addr) (cl : List (Str × Addr)) (fp : List Addr), DTs (X.blk s H scope (compEnvC scope cl C X.env) fp) ifs tt)
    (hk : ∀ (s : Shared) (H : Hp) (C : Addr) (cl : List (Str × Addr)) (fp : List Addr), DE (X.blk s H scope (compEnvC scope cl C X.env) fp) kx tk)
    (he : ∀ (s : Shared) (H : Hp) (C : Addr) (cl : List (Str × Addr)) (fp : List Addr), DE (X.blk s H scope (compEnvC scope cl C X.env) fp) vx te) (hsl : ∀ i ∈ g.sl, i ∈ own.map (·.2) := by decide) (hs : ∀ x, foldedSetIterable iter X.env x = pure x := by intro _; rfl) :
    DS X (.Assign [.Name y py] (.DictComp kx vx [⟨tg, iter, ifs, 0⟩] scope pos) spos) (sAsg (wDc wi g tt tk te (own.map (·.2))) (gN i)) := ⟨by
  refine ⟨fun pins s σ H B I ⟨ρ, M, A, rs, rm, q, po⟩ => ?_⟩
  rw [exec_Assign_Name_used _ _ _ _ hsw]
  refine wpAny_bind (wpAny_standAt (wpAny_bind ?_))
  have h : tDc (lI X.prog X.w X.K wi) (lG X.prog X.w X.K g) (lT X.prog X.w X.K tt) (lE X.prog X.w X.K tk) (lE X.prog X.w X.K te) (own.map (·.2)) σ H (fun x H1 => B.nx (σ.set i (some x)) H1) :=
    dc_imp hsl σ H _ ⟨ρ, M, _, rs, rm, q, fun v d H1 M1 s1 m1 r1 q1 => po.nx _ _ H1 M1 s1 m1 ((rs.keep (s1.keep rm)).set i r1) q1⟩
  refine wpAny_bind (thn (dc_core (use := some (assign (.Name y py) X.env)) (Qf := fun _ s' => SP X pins B .next s') hc hN I hi.pi ok (fun s H C cl fp => (hg s H C cl fp).pg) (fun s H C cl fp => (ht s H C cl fp).pts) (fun s H C cl fp => (hk s H C cl fp).pe) (fun s H C cl fp => (he s H C cl fp).pe) hs h
    fun L C s2 m H2 I2 q2 hn f => ?_) fun _ s2 hq => wpAny_pure (wpAny_pure hq))
  show wpAny _ _ (assign (.Name y py) X.env (.ref L)) _ _ _
  refine wpAny_assign_Name (store_ok2 (v := V.ref L) I2 hN hy (.inl hyl) rfl (fun sB IB hB => ?_) (.inr hyl))
  obtain ⟨mB, nB, left⟩ := block_left f hn IB hB
  exact ⟨mB, nB, fun h' same => ⟨_, H2, left h' same, q2⟩⟩⟩
/-- a name as a target -/
theorem dgn (i : Nat) {x : Str} {pos : Pos} (hN : X.N.Nodup) (hi : X.N[i]? = some x := by rfl) (hx : Loc X.env.scope x := by first | exact Or.inl rfl | exact Or.inr rfl) (hf : X.fn x = true ∨ X.env.scope.names.lookup x = some .local := by first | exact .inl rfl | exact .inr rfl) : DG X (.Name x pos) (gN i) := dg_name hN hi hx hf
end
theorem bt_int : bootBuiltins "int" = some (.type "int") := by decide +kernel
theorem bt_bool : bootBuiltins "bool" = some (.type "bool") := by decide +kernel
theorem bt_str : bootBuiltins "str" = some (.type "str") := by decide +kernel
theorem bt_tuple : bootBuiltins "tuple" = some (.type "tuple") := by decide +kernel
theorem bt_list : bootBuiltins "list" = some (.type "list") := by decide +kernel
theorem bt_dict : bootBuiltins "dict" = some (.type "dict") := by decide +kernel
theorem bb_isinstance : bootBuiltins "isinstance" = some (.builtin "isinstance") := by decide +kernel
theorem bb_len : bootBuiltins "len" = some (.builtin "len") := by decide +kernel
theorem bb_abs : bootBuiltins "abs" = some (.builtin "abs") := by decide +kernel
theorem bb_max : bootBuiltins "max" = some (.builtin "max") := by decide +kernel
theorem bb_min : bootBuiltins "min" = some (.builtin "min") := by decide +kernel
theorem bb_sum : bootBuiltins "sum" = some (.builtin "sum") := by decide +kernel
theorem bb_any : bootBuiltins "any" = some (.builtin "any") := by decide +kernel
theorem bb_all : bootBuiltins "all" = some (.builtin "all") := by decide +kernel
theorem bb_sorted : bootBuiltins "sorted" = some (.builtin "sorted") := by decide +kernel
end MP

namespace MP
open PySem PySem.Spec PyProof.Rows L2

/-! ### the readings, where they are applied (mpl.py printed these) -/
def r2F (ds : List D) (M : Mem) (Q : List D → (Mem → Prop) → Mem → Prop) : Prop := ∃ i j : Int, ds = [.int i, .int j] ∧ (-(2 ^ 62) ≤ i ∧ i < 2 ^ 62 ∧ -(2 ^ 62) ≤ j ∧ j < 2 ^ 62) ∧ Q (rngD i (j - i).toNat) (fun _ => True) M

theorem e_wVar (i : Nat) (ρ : Sl) (M : Mem) (Q : D → Mem → Prop) : (wVar i).f ρ M Q = (∃ d, ρ[i]? = some (some d) ∧ Q d M) := rfl
theorem e_wC (d : D) (ρ : Sl) (M : Mem) (Q : D → Mem → Prop) : (wC d).f ρ M Q = (Q d M) := rfl
theorem e_wOp (r : W2) (a b : WE) (ρ : Sl) (M : Mem) (Q : D → Mem → Prop) : (wOp r a b).f ρ M Q = (a.f ρ M fun d M1 => b.f ρ M1 fun e M2 => r.f d e M2 Q) := rfl
theorem e_wUn (r : W1) (a : WE) (ρ : Sl) (M : Mem) (Q : D → Mem → Prop) : (wUn r a).f ρ M Q = (a.f ρ M fun d M1 => r.f d M1 Q) := rfl
theorem e_aNil  (ρ : Sl) (M : Mem) (Q : List D → Mem → Prop) : (aNil ).f ρ M Q = (Q [] M) := rfl
theorem e_aCons (a : WE) (t : WA) (ρ : Sl) (M : Mem) (Q : List D → Mem → Prop) : (aCons a t).f ρ M Q = (a.f ρ M fun d M1 => t.f ρ M1 fun ds M2 => Q (d :: ds) M2) := rfl
theorem e_wCB (r : WN) (t : WA) (ρ : Sl) (M : Mem) (Q : D → Mem → Prop) : (wCB r t).f ρ M Q = (t.f ρ M fun ds M1 => r.f ds M1 Q) := rfl
theorem e_wCK (r : WK) (t tk : WA) (ρ : Sl) (M : Mem) (Q : D → Mem → Prop) : (wCK r t tk).f ρ M Q = (t.f ρ M fun ds M1 => tk.f ρ M1 fun es M2 => r.f ds es M2 Q) := rfl
theorem e_wTup (t : WA) (ρ : Sl) (M : Mem) (Q : D → Mem → Prop) : (wTup t).f ρ M Q = (t.f ρ M fun ds M1 => ds.length ≤ sizeLine ∧ Q (.tup ds) M1) := rfl
theorem e_wLst (t : WA) (ρ : Sl) (M : Mem) (Q : D → Mem → Prop) : (wLst t).f ρ M Q = (t.f ρ M fun ds M1 => ds.length ≤ sizeLine ∧ ∀ p, M1 p = none → Q (.ref p) (mupd M1 p (.lst ds))) := rfl
theorem e_wtB (a : WE) (ρ : Sl) (M : Mem) (Q : Bool → Mem → Prop) : (wtB a).f ρ M Q = (a.f ρ M fun d M1 => ∃ b, d = .bl b ∧ Q b M1) := rfl
theorem e_wtV (a : WE) (ρ : Sl) (M : Mem) (Q : Bool → Mem → Prop) : (wtV a).f ρ M Q = (a.f ρ M fun d M1 => truF d M1 fun b => Q b M1) := rfl
theorem e_wtNot (a : WT) (ρ : Sl) (M : Mem) (Q : Bool → Mem → Prop) : (wtNot a).f ρ M Q = (a.f ρ M fun b M1 => Q (!b) M1) := rfl
theorem e_wtAnd (a b : WT) (ρ : Sl) (M : Mem) (Q : Bool → Mem → Prop) : (wtAnd a b).f ρ M Q = (a.f ρ M fun c M1 => (c = true → b.f ρ M1 Q) ∧ (c = false → Q false M1)) := rfl
theorem e_wtOr (a b : WT) (ρ : Sl) (M : Mem) (Q : Bool → Mem → Prop) : (wtOr a b).f ρ M Q = (a.f ρ M fun c M1 => (c = true → Q true M1) ∧ (c = false → b.f ρ M1 Q)) := rfl
theorem e_wAnd (a b : WE) (ρ : Sl) (M : Mem) (Q : D → Mem → Prop) : (wAnd a b).f ρ M Q = (a.f ρ M fun d M1 => ∃ c, d = .bl c ∧ (c = true → b.f ρ M1 Q) ∧ (c = false → Q (.bl false) M1)) := rfl
theorem e_wOr (a b : WE) (ρ : Sl) (M : Mem) (Q : D → Mem → Prop) : (wOr a b).f ρ M Q = (a.f ρ M fun d M1 => ∃ c, d = .bl c ∧ (c = true → Q (.bl true) M1) ∧ (c = false → b.f ρ M1 Q)) := rfl
theorem e_wNot (a : WE) (ρ : Sl) (M : Mem) (Q : D → Mem → Prop) : (wNot a).f ρ M Q = (a.f ρ M fun d M1 => ∃ c, d = .bl c ∧ Q (.bl (!c)) M1) := rfl
theorem e_wIf (t : WT) (a b : WE) (ρ : Sl) (M : Mem) (Q : D → Mem → Prop) : (wIf t a b).f ρ M Q = (t.f ρ M fun c M1 => (c = true → a.f ρ M1 Q) ∧ (c = false → b.f ρ M1 Q)) := rfl
theorem e_wChain (r r' : W2) (a b c : WE) (ρ : Sl) (M : Mem) (Q : D → Mem → Prop) : (wChain r r' a b c).f ρ M Q = (a.f ρ M fun x M1 => b.f ρ M1 fun y M2 => r.f x y M2 fun z M3 => ∃ k, z = .bl k ∧ (k = true → c.f ρ M3 fun u M4 => r'.f y u M4 Q) ∧ (k = false → Q (.bl false) M3)) := rfl
theorem e_wSl (e : WE) (lo hi : WO) (ρ : Sl) (M : Mem) (Q : D → Mem → Prop) : (wSl e lo hi).f ρ M Q = (e.f ρ M fun d M1 => lo.f ρ M1 fun l M2 => hi.f ρ M2 fun u M3 => slF d l u M3 Q) := rfl
theorem e_oNone  (ρ : Sl) (M : Mem) (Q : Option Int → Mem → Prop) : (oNone ).f ρ M Q = (Q none M) := rfl
theorem e_oSome (e : WE) (ρ : Sl) (M : Mem) (Q : Option Int → Mem → Prop) : (oSome e).f ρ M Q = (e.f ρ M fun d M1 => ∃ i, d = .int i ∧ Q (some i) M1) := rfl
theorem e_wBM (T : String) (r : WM) (o : WE) (t : WA) (ρ : Sl) (M : Mem) (Q : D → Mem → Prop) : (wBM T r o t).f ρ M Q = (o.f ρ M fun d M1 => tyD T d M1 ∧ t.f ρ M1 fun ds M2 => r.f d ds M2 Q) := rfl
theorem e_wLc (wi : WI) (g : WG) (tt : WT) (te : WE) (vs : List Nat) (ρ : Sl) (M : Mem) (Q : D → Mem → Prop) : (wLc wi g tt te vs).f ρ M Q = (wi.f ρ M fun items stay M1 => lcF g tt te stay (wipeD ρ vs) Q items [] M1) := rfl
theorem e_wLc2 (wi : WI) (g : WG) (tt : WT) (wi1 : WI) (g1 : WG) (tt1 : WT) (te : WE) (vs vs1 : List Nat) (ρ : Sl) (M : Mem) (Q : D → Mem → Prop) : (wLc2 wi g tt wi1 g1 tt1 te vs vs1).f ρ M Q = (wi.f ρ M fun items stay M1 => lc2F g tt wi1 g1 tt1 te vs1 stay (wipeD ρ vs) Q items [] M1) := rfl
theorem e_wDc (wi : WI) (g : WG) (tt : WT) (tk te : WE) (vs : List Nat) (ρ : Sl) (M : Mem) (Q : D → Mem → Prop) : (wDc wi g tt tk te vs).f ρ M Q = (wi.f ρ M fun items stay M1 => dcF g tt tk te stay (wipeD ρ vs) Q items [] M1) := rfl
theorem e_wtYes  (ρ : Sl) (M : Mem) (Q : Bool → Mem → Prop) : (wtYes ).f ρ M Q = (Q true M) := rfl
theorem e_sNil  (A : DEn) (ρ : Sl) (M : Mem) : (sNil ).f A ρ M = (A.nx ρ M) := rfl
theorem e_sSeq (a b : WS) (A : DEn) (ρ : Sl) (M : Mem) : (sSeq a b).f A ρ M = (a.f { A with nx := b.f A } ρ M) := rfl
theorem e_sBreak  (A : DEn) (ρ : Sl) (M : Mem) : (sBreak ).f A ρ M = (A.bk ρ M) := rfl
theorem e_sCont  (A : DEn) (ρ : Sl) (M : Mem) : (sCont ).f A ρ M = (A.ct ρ M) := rfl
theorem e_sDrop (e : WE) (A : DEn) (ρ : Sl) (M : Mem) : (sDrop e).f A ρ M = (e.f ρ M fun _ M1 => A.nx ρ M1) := rfl
theorem e_sRet (e : WE) (A : DEn) (ρ : Sl) (M : Mem) : (sRet e).f A ρ M = (e.f ρ M A.rt) := rfl
theorem e_sRetN  (A : DEn) (ρ : Sl) (M : Mem) : (sRetN ).f A ρ M = (A.rt .non M) := rfl
theorem e_sIf (c : WT) (a b : WS) (A : DEn) (ρ : Sl) (M : Mem) : (sIf c a b).f A ρ M = (c.f ρ M fun k M1 => (k = true → a.f A ρ M1) ∧ (k = false → b.f A ρ M1)) := rfl
theorem e_sAsg (e : WE) (g : WG) (A : DEn) (ρ : Sl) (M : Mem) : (sAsg e g).f A ρ M = (e.f ρ M fun d M1 => g.f d ρ M1 A.nx) := rfl
theorem e_sPar (i j : Nat) (t : WA) (A : DEn) (ρ : Sl) (M : Mem) : (sPar i j t).f A ρ M = (t.f ρ M fun ds M1 => ∃ d e, ds = [d, e] ∧ A.nx ((ρ.set i (some d)).set j (some e)) M1) := rfl
theorem e_sAug (i : Nat) (e : WE) (r : W2) (A : DEn) (ρ : Sl) (M : Mem) : (sAug i e r).f A ρ M = (∃ d, ρ[i]? = some (some d) ∧ e.f ρ M fun c M1 => r.f d c M1 fun z M2 => A.nx (ρ.set i (some z)) M2) := rfl
theorem e_sFor (wi : WI) (g : WG) (b : WS) (A : DEn) (ρ : Sl) (M : Mem) : (sFor wi g b).f A ρ M = (wi.f ρ M fun items stay M1 => loopF g b stay A items ρ M1) := rfl
theorem e_gN (i : Nat) (d : D) (ρ : Sl) (M : Mem) (Q : Sl → Mem → Prop) : (gN i).f d ρ M Q = (Q (ρ.set i (some d)) M) := rfl
theorem e_gsNil  (ds : List D) (ρ : Sl) (M : Mem) (Q : Sl → Mem → Prop) : (gsNil ).f ds ρ M Q = (ds = [] ∧ Q ρ M) := rfl
theorem e_gsCons (a : WG) (b : WGs) (ds : List D) (ρ : Sl) (M : Mem) (Q : Sl → Mem → Prop) : (gsCons a b).f ds ρ M Q = (∃ d es, ds = d :: es ∧ a.f d ρ M fun ρ1 M1 => b.f es ρ1 M1 Q) := rfl
theorem e_gT (t : WGs) (d : D) (ρ : Sl) (M : Mem) (Q : Sl → Mem → Prop) : (gT t).f d ρ M Q = (∃ xs, d = .tup xs ∧ xs.length = t.n ∧ t.f xs ρ M Q) := rfl
theorem e_gSubD (o i : WE) (x : D) (ρ : Sl) (M : Mem) (Q : Sl → Mem → Prop) : (gSubD o i).f x ρ M Q = (o.f ρ M fun d M1 => i.f ρ M1 fun e M2 => putF d e x M2 fun M3 => Q ρ M3) := rfl
theorem e_iSeq (e : WE) (ρ : Sl) (M : Mem) (Q : List D → (Mem → Prop) → Mem → Prop) : (iSeq e).f ρ M Q = (e.f ρ M fun d M1 => iSeqF d M1 Q) := rfl
theorem e_iR1 (t : WA) (ρ : Sl) (M : Mem) (Q : List D → (Mem → Prop) → Mem → Prop) : (iR1 t).f ρ M Q = (t.f ρ M fun ds M1 => ∃ j : Int, ds = [.int j] ∧ j < 2 ^ 62 ∧ -(2 ^ 62) ≤ j ∧ Q (rngD 0 j.toNat) (fun _ => True) M1) := rfl
theorem e_iR2 (t : WA) (ρ : Sl) (M : Mem) (Q : List D → (Mem → Prop) → Mem → Prop) : (iR2 t).f ρ M Q = (t.f ρ M fun ds M1 => r2F ds M1 Q) := rfl
theorem e_iEnumL (t : WA) (ρ : Sl) (M : Mem) (Q : List D → (Mem → Prop) → Mem → Prop) : (iEnumL t).f ρ M Q = (t.f ρ M fun ds M1 => ∃ a xs, ds = [.ref a] ∧ M1 a = some (.lst xs) ∧ Q (enumD 0 xs) (fun M => M a = some (.lst xs)) M1) := rfl
theorem e_iZipW (t : WA) (ρ : Sl) (M : Mem) (Q : List D → (Mem → Prop) → Mem → Prop) : (iZipW t).f ρ M Q = (t.f ρ M fun ds M1 => iZipF ds M1 Q) := rfl
theorem e_mAppend  (d : D) (ds : List D) (M : Mem) (Q : D → Mem → Prop) : (mAppend ).f d ds M Q = (∃ a xs y, d = .ref a ∧ ds = [y] ∧ M a = some (.lst xs) ∧ xs.length < sizeLine ∧ Q .non (mupd M a (.lst (xs ++ [y])))) := rfl
theorem e_mExtend  (d : D) (ds : List D) (M : Mem) (Q : D → Mem → Prop) : (mExtend ).f d ds M Q = (∃ a b xs ys, d = .ref a ∧ ds = [.ref b] ∧ M a = some (.lst xs) ∧ M b = some (.lst ys) ∧ xs.length + ys.length ≤ sizeLine ∧ Q .non (mupd M a (.lst (xs ++ ys)))) := rfl
theorem e_mIndex  (d : D) (ds : List D) (M : Mem) (Q : D → Mem → Prop) : (mIndex ).f d ds M Q = (∃ a xs y j, d = .ref a ∧ ds = [y] ∧ M a = some (.lst xs) ∧ D.pls xs ∧ y.pl ∧ min (D.deps xs) y.dep ≤ 60 ∧ (xs.findIdx? fun x => eqD x y) = some j ∧ Q (.int (j : Nat)) M) := rfl
theorem e_nLen  (ds : List D) (M : Mem) (Q : D → Mem → Prop) : (nLen ).f ds M Q = (∃ d, ds = [d] ∧ lenF d M fun n => Q (.int (n : Nat)) M) := rfl
theorem e_nTuple  (ds : List D) (M : Mem) (Q : D → Mem → Prop) : (nTuple ).f ds M Q = (∃ d, ds = [d] ∧ itemsF d M fun xs => Q (.tup xs) M) := rfl
theorem e_nList  (ds : List D) (M : Mem) (Q : D → Mem → Prop) : (nList ).f ds M Q = (∃ d, ds = [d] ∧ itemsF d M fun xs => ∀ p, M p = none → Q (.ref p) (mupd M p (.lst xs))) := rfl
theorem e_nBls (g : List Bool → Bool) (ds : List D) (M : Mem) (Q : D → Mem → Prop) : (nBls g).f ds M Q = (∃ a bs, ds = [.ref a] ∧ M a = some (.lst (bs.map D.bl)) ∧ Q (.bl (g bs)) M) := rfl
theorem e_rIx  (d : D) (e : D) (M : Mem) (Q : D → Mem → Prop) : (rIx ).f d e M Q = (ixF d e M fun x => Q x M) := rfl
theorem e_nSorted  (ds : List D) (M : Mem) (Q : D → Mem → Prop) : (nSorted ).f ds M Q = (∃ a xs, ds = [.ref a] ∧ M a = some (.lst xs) ∧ PySem.W.AllAlike (xs.map D.py) ∧ PySem.W.Sortable (xs.map D.py) ∧ (∀ x ∈ xs, x.pl ∧ x.dep ≤ 60) ∧ ∀ p, M p = none → Q (.ref p) (mupd M p (.lst (sortD xs)))) := rfl
theorem e_nBest (g : D → List D → D) (ds : List D) (M : Mem) (Q : D → Mem → Prop) : (nBest g).f ds M Q = (∃ d, ds = [d] ∧ itemsF d M fun xs => ∃ y ys, xs = y :: ys ∧ D.pls xs ∧ PySem.W.AlikeAll (D.pys xs) ∧ D.deps xs ≤ 60 ∧ Q (g y ys) M) := rfl
theorem e_kBestD (g : D → List D → D) (ds : List D) (es : List D) (M : Mem) (Q : D → Mem → Prop) : (kBestD g).f ds es M Q = (∃ d e, ds = [d] ∧ es = [e] ∧ itemsF d M fun xs => D.pls xs ∧ PySem.W.AlikeAll (D.pys xs) ∧ D.deps xs ≤ 60 ∧ Q (bestD g e xs) M) := rfl
theorem e_rAdd_int (i j : Int) (M : Mem) (Q : D → Mem → Prop) : rAdd.f (.int i) (.int j) M Q = (Q (.int (i + j)) M) := rfl
theorem e_rAdd_tup (i j : List D) (M : Mem) (Q : D → Mem → Prop) : rAdd.f (.tup i) (.tup j) M Q = (i.length + j.length ≤ sizeLine ∧ Q (.tup (i ++ j)) M) := rfl
theorem e_rAdd_str (i j : Str) (M : Mem) (Q : D → Mem → Prop) : rAdd.f (.str i) (.str j) M Q = (i.length + j.length ≤ sizeLine ∧ Q (.str (i ++ j)) M) := rfl
theorem e_rAdd_ref (a b : Addr) (M : Mem) (Q : D → Mem → Prop) : rAdd.f (.ref a) (.ref b) M Q = (∃ xs ys, M a = some (.lst xs) ∧ M b = some (.lst ys) ∧ xs.length + ys.length ≤ sizeLine ∧ ∀ p, M p = none → Q (.ref p) (mupd M p (.lst (xs ++ ys)))) := rfl
theorem e_rSub_int (i j : Int) (M : Mem) (Q : D → Mem → Prop) : rSub.f (.int i) (.int j) M Q = (Q (.int (i - j)) M) := rfl
theorem e_rMulA_int (i j : Int) (M : Mem) (Q : D → Mem → Prop) : rMulA.f (.int i) (.int j) M Q = (CMul i j ∧ Q (.int (i * j)) M) := rfl
theorem e_rMulA_tup (xs : List D) (k : Int) (M : Mem) (Q : D → Mem → Prop) : rMulA.f (.tup xs) (.int k) M Q = (-(2 ^ 63) ≤ k ∧ k ≤ 1000 ∧ xs.length ≤ 1000 ∧ Q (.tup (List.replicate k.toNat xs).flatten) M) := rfl
theorem e_rMulA_ref (a : Addr) (k : Int) (M : Mem) (Q : D → Mem → Prop) : rMulA.f (.ref a) (.int k) M Q = (∃ xs, M a = some (.lst xs) ∧ -(2 ^ 63) ≤ k ∧ k < 2 ^ 63 ∧ xs.length * k.toNat ≤ sizeLine ∧ ∀ p, M p = none → Q (.ref p) (mupd M p (.lst (List.replicate k.toNat xs).flatten))) := rfl
theorem e_rFdiv_int (i j : Int) (M : Mem) (Q : D → Mem → Prop) : rFdiv.f (.int i) (.int j) M Q = (CDiv i j ∧ Q (.int (i / j)) M) := rfl
theorem e_rMod_int (i j : Int) (M : Mem) (Q : D → Mem → Prop) : rMod.f (.int i) (.int j) M Q = (0 < j ∧ Q (.int (i % j)) M) := rfl
theorem e_rPow_int (i j : Int) (M : Mem) (Q : D → Mem → Prop) : rPow.f (.int i) (.int j) M Q = (CPow i j ∧ Q (.int (i ^ j.toNat)) M) := rfl
theorem e_rLe_int (i j : Int) (M : Mem) (Q : D → Mem → Prop) : rLe.f (.int i) (.int j) M Q = (Q (.bl (decide (i ≤ j))) M) := rfl
theorem e_rGt_int (i j : Int) (M : Mem) (Q : D → Mem → Prop) : rGt.f (.int i) (.int j) M Q = (Q (.bl (decide (j < i))) M) := rfl
theorem e_rGe_int (i j : Int) (M : Mem) (Q : D → Mem → Prop) : rGe.f (.int i) (.int j) M Q = (Q (.bl (decide (j ≤ i))) M) := rfl
theorem e_rLt_int (i j : Int) (M : Mem) (Q : D → Mem → Prop) : rLt.f (.int i) (.int j) M Q = (Q (.bl (decide (i < j))) M) := rfl
theorem e_rLt_tup (i j : List D) (M : Mem) (Q : D → Mem → Prop) : rLt.f (.tup i) (.tup j) M Q = (PySem.W.alike (D.tup i).py (D.tup j).py = true ∧ (D.tup i).py ≠ .none ∧ min (D.tup i).dep (D.tup j).dep ≤ 60 ∧ (D.tup i).pl ∧ (D.tup j).pl ∧ Q (.bl (ltD (.tup i) (.tup j))) M) := rfl
theorem e_rEqn_int (n : Bool) (i j : Int) (M : Mem) (Q : D → Mem → Prop) : (rEqn n).f (.int i) (.int j) M Q = (Q (.bl (xor n (decide (i = j)))) M) := rfl
theorem e_rEqn_str (n : Bool) (i j : Str) (M : Mem) (Q : D → Mem → Prop) : (rEqn n).f (.str i) (.str j) M Q = (Q (.bl (xor n (decide (i = j)))) M) := rfl
theorem e_rEqn_bl (n : Bool) (i j : Bool) (M : Mem) (Q : D → Mem → Prop) : (rEqn n).f (.bl i) (.bl j) M Q = (Q (.bl (xor n (i == j))) M) := rfl
theorem e_rEqn_tup (n : Bool) (i j : List D) (M : Mem) (Q : D → Mem → Prop) : (rEqn n).f (.tup i) (.tup j) M Q = ((D.tup i).pl ∧ (D.tup j).pl ∧ min (D.tup i).dep (D.tup j).dep ≤ 60 ∧ Q (.bl (xor n (eqD (.tup i) (.tup j)))) M) := rfl
theorem e_rEqn_ref (n : Bool) (a b : Addr) (M : Mem) (Q : D → Mem → Prop) : (rEqn n).f (.ref a) (.ref b) M Q = (∃ xs ys, M a = some (.lst xs) ∧ M b = some (.lst ys) ∧ D.pls xs ∧ D.pls ys ∧ min (D.deps xs) (D.deps ys) ≤ 60 ∧ Q (.bl (xor n (PyData.eqvAll (D.pys xs) (D.pys ys)))) M) := rfl
theorem e_rIsn_non (n : Bool) (d : D) (M : Mem) (Q : D → Mem → Prop) : (rIsn n).f d .non M Q = (Q (.bl (xor n d.isNon)) M) := rfl
theorem e_rIsn_bl (n : Bool) (a b : Bool) (M : Mem) (Q : D → Mem → Prop) : (rIsn n).f (.bl a) (.bl b) M Q = (Q (.bl (xor n (decide (a = b)))) M) := rfl
theorem e_rInn_tup (n : Bool) (d : D) (xs : List D) (M : Mem) (Q : D → Mem → Prop) : (rInn n).f d (.tup xs) M Q = (D.pls xs ∧ d.pl ∧ min (D.deps xs) d.dep ≤ 60 ∧ Q (.bl (xor n (xs.any fun x => eqD x d))) M) := rfl
theorem e_rNeg_int (i : Int) (M : Mem) (Q : D → Mem → Prop) : rNeg.f (.int i) M Q = (Q (.int (-i)) M) := rfl
theorem e_ix_tup (xs : List D) (i : Int) (M : Mem) (Q : D → Prop) : ixF (.tup xs) (.int i) M Q = (∃ x, atI xs i = some x ∧ Q x) := propext ⟨fun ⟨j, x, e, h⟩ => by cases e; exact ⟨x, h⟩, fun ⟨x, h⟩ => ⟨i, x, rfl, h⟩⟩
theorem e_ix_fl (xs : List D) (i : Int) (M : Mem) (Q : D → Prop) : ixF (.fl xs) (.int i) M Q = (∃ x, atI xs i = some x ∧ Q x) := propext ⟨fun ⟨j, x, e, h⟩ => by cases e; exact ⟨x, h⟩, fun ⟨x, h⟩ => ⟨i, x, rfl, h⟩⟩
theorem ix_lst {a : Addr} {xs : List D} {i : Int} {M : Mem} {Q : D → Prop} (h : M a = some (.lst xs)) : ixF (.ref a) (.int i) M Q = (∃ x, atI xs i = some x ∧ Q x) := propext ⟨fun z => by
  rcases z with ⟨ys, j, x, e1, e2, e3⟩ | ⟨ys, x, e1, _⟩
  · rw [h] at e1; cases e1; cases e2; exact ⟨x, e3⟩
  · rw [h] at e1; cases e1; done, fun ⟨x, z⟩ => .inl ⟨xs, i, x, h, rfl, z⟩⟩
theorem ix_dic {a : Addr} {kvs : List (D × D)} {k : D} {M : Mem} {Q : D → Prop} (h : M a = some (.dic kvs)) : ixF (.ref a) k M Q = (keyOk kvs k ∧ ∃ x, dgetD kvs k = some x ∧ Q x) := propext ⟨fun z => by
  rcases z with ⟨ys, j, x, e1, _⟩ | ⟨ys, x, e1, e2, e3, e4⟩
  · rw [h] at e1; cases e1; done
  · rw [h] at e1; cases e1; exact ⟨e2, x, e3, e4⟩, fun ⟨e2, x, z⟩ => .inr ⟨kvs, x, h, e2, z⟩⟩
theorem len_tup (xs : List D) (M : Mem) (Q : Nat → Prop) : lenF (.tup xs) M Q = Q xs.length := rfl
theorem len_fl (xs : List D) (M : Mem) (Q : Nat → Prop) : lenF (.fl xs) M Q = Q xs.length := rfl
theorem len_lst {a : Addr} {xs : List D} {M : Mem} {Q : Nat → Prop} (h : M a = some (.lst xs)) : lenF (.ref a) M Q = Q xs.length := propext ⟨fun z => by
  rcases z with ⟨ys, e1, q⟩ | ⟨ys, e1, _⟩
  · rw [h] at e1; cases e1; exact q
  · rw [h] at e1; cases e1; done, fun z => .inl ⟨xs, h, z⟩⟩
theorem items_tup (xs : List D) (M : Mem) (Q : List D → Prop) : itemsF (.tup xs) M Q = Q xs := rfl
theorem items_fl (xs : List D) (M : Mem) (Q : List D → Prop) : itemsF (.fl xs) M Q = Q xs := rfl
theorem items_lst {a : Addr} {xs : List D} {M : Mem} {Q : List D → Prop} (h : M a = some (.lst xs)) : itemsF (.ref a) M Q = Q xs := propext ⟨fun ⟨ys, e1, q⟩ => by rw [h] at e1; cases e1; exact q, fun z => ⟨xs, h, z⟩⟩
theorem iseq_tup (xs : List D) (M : Mem) (Q : List D → (Mem → Prop) → Mem → Prop) : iSeqF (.tup xs) M Q = Q xs (fun _ => True) M := rfl
theorem iseq_fl (xs : List D) (M : Mem) (Q : List D → (Mem → Prop) → Mem → Prop) : iSeqF (.fl xs) M Q = Q xs (fun _ => True) M := rfl
theorem iseq_lst {a : Addr} {xs : List D} {M : Mem} {Q : List D → (Mem → Prop) → Mem → Prop} (h : M a = some (.lst xs)) : iSeqF (.ref a) M Q = Q xs (fun M => M a = some (.lst xs)) M := propext ⟨fun ⟨ys, e1, q⟩ => by rw [h] at e1; cases e1; exact q, fun z => ⟨xs, h, z⟩⟩
theorem ty_lst {a : Addr} {xs : List D} {M : Mem} (h : M a = some (.lst xs)) : tyD "list" (.ref a) M = True := eq_true (.inl ⟨rfl, xs, h⟩)
theorem put_lst {a : Addr} {xs : List D} {k : Int} {x : D} {M : Mem} {Q : Mem → Prop} (h : M a = some (.lst xs)) : putF (.ref a) (.int k) x M Q = (∃ j, ixN xs.length k = some j ∧ Q (mupd M a (.lst (xs.set j x)))) := propext ⟨fun z => by
  rcases z with ⟨ys, i, j, e1, e2, e3⟩ | ⟨ys, e1, _⟩
  · rw [h] at e1; cases e1; cases e2; exact ⟨j, e3⟩
  · rw [h] at e1; cases e1; done, fun ⟨j, z⟩ => .inl ⟨xs, k, j, h, rfl, z⟩⟩
theorem in_lst {n : Bool} {d : D} {a : Addr} {xs : List D} {M : Mem} {Q : D → Mem → Prop} (h : M a = some (.lst xs)) : (rInn n).f d (.ref a) M Q = (D.pls xs ∧ d.pl ∧ min (D.deps xs) d.dep ≤ 60 ∧ Q (.bl (xor n (xs.any fun x => eqD x d))) M) := propext ⟨fun z => by
  rcases z with ⟨ys, e1, q⟩ | ⟨ys, e1, _⟩
  · rw [h] at e1; cases e1; exact q
  · rw [h] at e1; cases e1; done, fun z => .inl ⟨xs, h, z⟩⟩
theorem in_dic {n : Bool} {d : D} {a : Addr} {kvs : List (D × D)} {M : Mem} {Q : D → Mem → Prop} (h : M a = some (.dic kvs)) : (rInn n).f d (.ref a) M Q = (keyOk kvs d ∧ Q (.bl (xor n (dgetD kvs d).isSome)) M) := propext ⟨fun z => by
  rcases z with ⟨ys, e1, _⟩ | ⟨ys, e1, q⟩
  · rw [h] at e1; cases e1; done
  · rw [h] at e1; cases e1; exact q, fun z => .inr ⟨kvs, h, z⟩⟩
theorem e_nInt_int (i : Int) (M : Mem) (Q : D → Mem → Prop) : nInt.f [.int i] M Q = Q (.int i) M := rfl
theorem e_nInt_bl (b : Bool) (M : Mem) (Q : D → Mem → Prop) : nInt.f [.bl b] M Q = Q (.int (if b = true then 1 else 0)) M := rfl
theorem tru_lst {a : Addr} {xs : List D} {M : Mem} {Q : Bool → Prop} (h : M a = some (.lst xs)) : truF (.ref a) M Q = Q (!xs.isEmpty) := propext ⟨fun z => by
  rcases z with ⟨ys, e1, q⟩ | ⟨ys, e1, _⟩
  · rw [h] at e1; cases e1; exact q
  · rw [h] at e1; cases e1; done, fun z => .inl ⟨xs, h, z⟩⟩
theorem e_nInt1_int (g : Int → D) (i : Int) (M : Mem) (Q : D → Mem → Prop) : (nInt1 g).f [.int i] M Q = Q (g i) M := propext ⟨fun ⟨j, e, q⟩ => by cases e; exact q, fun q => ⟨i, rfl, q⟩⟩
theorem e_nInt2_int (g : Int → Int → D) (i j : Int) (M : Mem) (Q : D → Mem → Prop) : (nInt2 g).f [.int i, .int j] M Q = Q (g i j) M := propext ⟨fun ⟨a, b, e, q⟩ => by cases e; exact q, fun q => ⟨i, j, rfl, q⟩⟩
theorem e_nIsi_2 (d : D) (u : String) (M : Mem) (Q : D → Mem → Prop) : nIsi.f [d, .ty u] M Q = (∃ t b, tyName d M = some t ∧ kitB2 t u = some b ∧ Q (.bl b) M) := propext ⟨fun ⟨a, b, t, c, e, q⟩ => by cases e; exact ⟨t, c, q⟩, fun ⟨t, b, q⟩ => ⟨d, u, t, b, rfl, q⟩⟩
theorem e_r2F (i j : Int) (M : Mem) (Q : List D → (Mem → Prop) → Mem → Prop) : r2F [.int i, .int j] M Q = ((-(2 ^ 62) ≤ i ∧ i < 2 ^ 62 ∧ -(2 ^ 62) ≤ j ∧ j < 2 ^ 62) ∧ Q (rngD i (j - i).toNat) (fun _ => True) M) := propext ⟨fun ⟨a, b, e, q⟩ => by cases e; exact q, fun q => ⟨i, j, rfl, q⟩⟩
theorem e_tru_bl (b : Bool) (M : Mem) (Q : Bool → Prop) : truF (.bl b) M Q = Q b := rfl
theorem e_tru_int (i : Int) (M : Mem) (Q : Bool → Prop) : truF (.int i) M Q = Q (i != 0) := rfl
theorem e_tru_tup (xs : List D) (M : Mem) (Q : Bool → Prop) : truF (.tup xs) M Q = Q (!xs.isEmpty) := rfl
theorem tn_int (i : Int) (M : Mem) : tyName (.int i) M = some "int" := rfl
theorem tn_bl (i : Bool) (M : Mem) : tyName (.bl i) M = some "bool" := rfl
theorem tn_str (i : Str) (M : Mem) : tyName (.str i) M = some "str" := rfl
theorem tn_non (M : Mem) : tyName .non M = some "NoneType" := rfl
theorem tn_tup (xs : List D) (M : Mem) : tyName (.tup xs) M = some "tuple" := rfl
theorem tn_fl (xs : List D) (M : Mem) : tyName (.fl xs) M = some "list" := rfl
theorem tn_lst {a : Addr} {xs : List D} {M : Mem} (h : M a = some (.lst xs)) : tyName (.ref a) M = some "list" := by simp only [tyName, h]
theorem kb_int_int : kitB2 "int" "int" = some true := by decide
theorem kb_int_bool : kitB2 "int" "bool" = some false := by decide
theorem kb_int_str : kitB2 "int" "str" = some false := by decide
theorem kb_int_tuple : kitB2 "int" "tuple" = some false := by decide
theorem kb_int_list : kitB2 "int" "list" = some false := by decide
theorem kb_bool_int : kitB2 "bool" "int" = some true := by decide
theorem kb_bool_bool : kitB2 "bool" "bool" = some true := by decide
theorem kb_bool_str : kitB2 "bool" "str" = some false := by decide
theorem kb_bool_tuple : kitB2 "bool" "tuple" = some false := by decide
theorem kb_bool_list : kitB2 "bool" "list" = some false := by decide
theorem kb_str_int : kitB2 "str" "int" = some false := by decide
theorem kb_str_bool : kitB2 "str" "bool" = some false := by decide
theorem kb_str_str : kitB2 "str" "str" = some true := by decide
theorem kb_str_tuple : kitB2 "str" "tuple" = some false := by decide
theorem kb_str_list : kitB2 "str" "list" = some false := by decide
theorem kb_NoneType_int : kitB2 "NoneType" "int" = some false := by decide
theorem kb_NoneType_bool : kitB2 "NoneType" "bool" = some false := by decide
theorem kb_NoneType_str : kitB2 "NoneType" "str" = some false := by decide
theorem kb_NoneType_tuple : kitB2 "NoneType" "tuple" = some false := by decide
theorem kb_NoneType_list : kitB2 "NoneType" "list" = some false := by decide
theorem kb_tuple_int : kitB2 "tuple" "int" = some false := by decide
theorem kb_tuple_bool : kitB2 "tuple" "bool" = some false := by decide
theorem kb_tuple_str : kitB2 "tuple" "str" = some false := by decide
theorem kb_tuple_tuple : kitB2 "tuple" "tuple" = some true := by decide
theorem kb_tuple_list : kitB2 "tuple" "list" = some false := by decide
theorem kb_list_int : kitB2 "list" "int" = some false := by decide
theorem kb_list_bool : kitB2 "list" "bool" = some false := by decide
theorem kb_list_str : kitB2 "list" "str" = some false := by decide
theorem kb_list_tuple : kitB2 "list" "tuple" = some false := by decide
theorem kb_list_list : kitB2 "list" "list" = some true := by decide
theorem s_at0 {α : Type} (x : α) (xs : List α) : atI (x :: xs) 0 = some x := atI_nat (xs := x :: xs) (j := 0) rfl
theorem s_at1 {α : Type} (x y : α) (xs : List α) : atI (x :: y :: xs) 1 = some y := atI_nat (xs := x :: y :: xs) (j := 1) rfl
theorem s_at2 {α : Type} (x y z : α) (xs : List α) : atI (x :: y :: z :: xs) 2 = some z := atI_nat (xs := x :: y :: z :: xs) (j := 2) rfl
theorem s_at3 {α : Type} (x y z u : α) (xs : List α) : atI (x :: y :: z :: u :: xs) 3 = some u := atI_nat (xs := x :: y :: z :: u :: xs) (j := 3) rfl
theorem s_at4 {α : Type} (x y z u v : α) (xs : List α) : atI (x :: y :: z :: u :: v :: xs) 4 = some v := atI_nat (xs := x :: y :: z :: u :: v :: xs) (j := 4) rfl
theorem cdiv_lit {i : Int} {j : Int} (h : 0 < j ∧ j < 1073741824 := by decide) : CDiv i j := h
theorem cmul_r {i j : Int} (h : -(2 ^ 64) < j ∧ j < 2 ^ 64) : CMul i j := .inr h
theorem cmul_l {i j : Int} (h : -(2 ^ 64) < i ∧ i < 2 ^ 64) : CMul i j := .inl h
theorem s_ex2 {α β : Type} (a : α) (b : β) (P : α → β → Prop) : (∃ d e, (a = d ∧ b = e) ∧ P d e) = P a b := propext ⟨fun ⟨_, _, ⟨rfl, rfl⟩, h⟩ => h, fun h => ⟨a, b, ⟨rfl, rfl⟩, h⟩⟩
end MP

namespace MP
open PySem PySem.Spec PyProof.Rows L2

/-! ### promises -/
/-- everything that M tells is still so -/
def Sub (M M' : Mem) : Prop := ∀ a o, M a = some o → M' a = some o
theorem Sub.refl {M : Mem} : Sub M M := fun _ _ h => h
theorem Sub.trans {M M1 M2 : Mem} (a : Sub M M1) (b : Sub M1 M2) : Sub M M2 := fun c o h => b c o (a c o h)
theorem Sub.upd {M M1 : Mem} {p : Addr} {o : MO} (s : Sub M M1) (h : M p = none) : Sub M (mupd M1 p o) := fun a u e => by
  rw [mupd_ne (fun z => by rw [z, h] at e; cases e)]; exact s a u e
theorem Sub.new {M : Mem} {p : Addr} {o : MO} (h : M p = none) : Sub M (mupd M p o) := Sub.refl.upd h
theorem Sub.none {M M1 : Mem} {p : Addr} (s : Sub M M1) (h : M1 p = none) : M p = none := by
  cases e : M p with
  | none => rfl
  | some o => rw [s p o e] at h; cases h
theorem Sub.ne {M : Mem} {a p : Addr} {o : MO} (h : M a = some o) (hp : M p = Option.none) : a ≠ p := fun z => by rw [z, hp] at h; cases h
/-- the pools that M knows stand with their parts -/
def Cons (M : Mem) : Prop := ∀ a r c n, M a = some (.pool r c n) → (M r = some (.sub a) ∧ M c = some (.sub a)) ∧ r ≠ a ∧ c ≠ a ∧ r ≠ c
/-- one object told more weakly: of a pool, that it was asked at most so often -/
def LeO (u o : MO) : Prop := u = o ∨ ∃ r c n m, u = .pool r c n ∧ o = .pool r c m ∧ n ≤ m
/-- M' tells all that M tells -/
def Wk (M M' : Mem) : Prop := ∀ a o, M a = some o → ∃ u, M' a = some u ∧ LeO u o
theorem Sub.wk {M M' : Mem} (s : Sub M M') : Wk M M' := fun a o h => ⟨o, s a o h, .inl rfl⟩
section
variable {P : Program} {w : World} {K : PySem.W.Frag} {H : Hp} {M M' : Mem}
theorem RelM.cons (rm : RelM P w K H M) : Cons M := fun a r c n h => by
  obtain ⟨ns, t, e, er, ec, h1, h2, h3, h4, h5, h6, h7, h8⟩ := rm a _ h
  exact ⟨⟨h7, h8⟩, h4, h5, h6⟩
theorem Vw.wk (cn : Cons M) (s : Wk M M') : Vw P w K M' M := by
  refine ⟨fun a h => ?_, fun H rm a o h => ?_⟩
  · cases e : M a with
    | none => rfl
    | some o => obtain ⟨u, hu, _⟩ := s a o e; rw [h] at hu; cases hu
  · obtain ⟨u, hu, le⟩ := s a o h
    have q := rm a u hu
    rcases le with rfl | ⟨r, c, n, m, rfl, rfl, hl⟩
    · cases u with
      | pool r' c' n' =>
        obtain ⟨ns, t, e, er, ec, h1, h2, h3, h4, h5, h6, h7, h8⟩ := q
        exact ⟨ns, t, e, er, ec, h1, h2, h3, h4, h5, h6, (cn a r' c' n' h).1.1, (cn a r' c' n' h).1.2⟩
      | lst ds => exact q
      | dic kvs => exact q
      | ins C fs => exact q
      | sub q' => exact q
      | rg lo hi => exact q
      | fd kvs t => exact q
    · obtain ⟨ns, t, e, er, ec, h1, h2, h3, h4, h5, h6, h7, h8⟩ := q
      exact ⟨ns, t, e, er, ec, h1, h2, ⟨h3.1, by omega⟩, h4, h5, h6, (cn a r c m h).1.1, (cn a r c m h).1.2⟩
theorem Vw.sub (c : Cons M) (s : Sub M M') : Vw P w K M' M := Vw.wk c s.wk
/-- a new object beside -/
theorem Cons.new (c : Cons M) {p : Addr} {o : MO} (hp : M p = none) (hn : ∀ r c n, o ≠ .pool r c n) : Cons (mupd M p o) := fun a r d n h => by
  by_cases ha : a = p
  · subst ha; rw [mupd_same] at h; cases h; exact absurd rfl (hn r d n)
  · rw [mupd_ne ha] at h
    obtain ⟨⟨h1, h2⟩, h3⟩ := c a r d n h
    exact ⟨⟨(Sub.new hp) _ _ h1, (Sub.new hp) _ _ h2⟩, h3⟩
theorem Vw.new (c : Cons M) (s : Sub M M') {p : Addr} {o : MO} (hp : M p = none) (h : M' p = some o) (hn : ∀ r c n, o ≠ .pool r c n) : Vw P w K M' (mupd M p o) := by
  refine Vw.wk (c.new hp hn) (Sub.wk fun a u e => ?_)
  by_cases ha : a = p
  · subst ha; rw [mupd_same] at e; cases e; exact h
  · rw [mupd_ne ha] at e; exact s a u e
end
/-- M' is M, but for new objects and what the pool at p was asked: b times at most in all -/
def DrS (p r c : Addr) (b : Nat) (M M' : Mem) : Prop := (∃ m, m ≤ b ∧ M' p = some (.pool r c m)) ∧ ∀ a o, a ≠ p → M a = some o → M' a = some o
theorem DrS.refl {p r c : Addr} {n : Nat} {M : Mem} (h : M p = some (.pool r c n)) : DrS p r c n M M := ⟨⟨n, Nat.le_refl _, h⟩, fun _ _ _ h => h⟩
theorem DrS.le {p r c : Addr} {b b' : Nat} {M M' : Mem} (d : DrS p r c b M M') (h : b ≤ b') : DrS p r c b' M M' := ⟨let ⟨m, h1, h2⟩ := d.1; ⟨m, by omega, h2⟩, d.2⟩
theorem DrS.trans {p r c : Addr} {b b' : Nat} {M M1 M2 : Mem} (d : DrS p r c b M M1) (e : DrS p r c b' M1 M2) : DrS p r c b' M M2 := ⟨e.1, fun a o ha h => e.2 a o ha (d.2 a o ha h)⟩
theorem DrS.sub {p r c : Addr} {b : Nat} {M M1 M2 : Mem} (d : DrS p r c b M M1) (s : Sub M1 M2) : DrS p r c b M M2 := ⟨let ⟨m, h1, h2⟩ := d.1; ⟨m, h1, s _ _ h2⟩, fun a o ha h => s a o (d.2 a o ha h)⟩
theorem DrS.ask {p r c : Addr} {b m k : Nat} {M M1 : Mem} (d : DrS p r c b M M1) (h : M1 p = some (.pool r c m)) : DrS p r c (b + k) M (mupd M1 p (.pool r c (m + k))) := by
  obtain ⟨m', h1, h2⟩ := d.1
  rw [h] at h2; cases h2
  exact ⟨⟨m + k, by omega, mupd_same⟩, fun a o ha h => by rw [mupd_ne ha]; exact d.2 a o ha h⟩
theorem DrS.upd {p r c a : Addr} {b : Nat} {M M1 : Mem} {o : MO} (d : DrS p r c b M M1) (h : M a = none) (hp : M p ≠ none) : DrS p r c b M (mupd M1 a o) := by
  have ne : p ≠ a := fun z => hp (by rw [z]; exact h)
  exact ⟨let ⟨m, h1, h2⟩ := d.1; ⟨m, h1, by rw [mupd_ne ne]; exact h2⟩, fun x u hx e => by rw [mupd_ne (fun z => by rw [z, h] at e; cases e)]; exact d.2 x u hx e⟩
theorem DrS.wk {p r c : Addr} {n k : Nat} {M M' : Mem} (d : DrS p r c (n + k) M M') : Wk (mupd M p (.pool r c (n + k))) M' := fun a o h => by
  by_cases ha : a = p
  · subst ha; rw [mupd_same] at h; cases h
    obtain ⟨m, h1, h2⟩ := d.1
    exact ⟨_, h2, .inr ⟨r, c, m, n + k, rfl, rfl, h1⟩⟩
  · rw [mupd_ne ha] at h
    exact ⟨o, d.2 a o ha h, .inl rfl⟩
theorem Cons.ask {p r c : Addr} {n m : Nat} {M : Mem} (cn : Cons M) (h : M p = some (.pool r c n)) : Cons (mupd M p (.pool r c m)) := fun a r' c' n' e => by
  obtain ⟨⟨k1, k2⟩, k3, k4, k5⟩ := cn p r c n h
  by_cases ha : a = p
  · subst ha; rw [mupd_same] at e; cases e
    exact ⟨⟨by rw [mupd_ne k3]; exact k1, by rw [mupd_ne k4]; exact k2⟩, k3, k4, k5⟩
  · rw [mupd_ne ha] at e
    obtain ⟨⟨j1, j2⟩, j3⟩ := cn a r' c' n' e
    refine ⟨⟨?_, ?_⟩, j3⟩
    · rw [mupd_ne (fun z => by rw [z, h] at j1; cases j1)]; exact j1
    · rw [mupd_ne (fun z => by rw [z, h] at j2; cases j2)]; exact j2
/-- a def that asks the pool (its first argument) at most k times -/
def nDr (k : Nat) (C : List D → Mem → Prop) (g : List D → Mem → D → Prop) : WN := ⟨fun ds M Q => ∃ p r c n rest, ds = .ref p :: rest ∧ M p = some (.pool r c n) ∧ n + k ≤ 1000000000 ∧ C ds M ∧ ∀ d, g ds M d → Q d (mupd M p (.pool r c (n + k))),
  fun _ _ _ _ h ⟨p, r, c, n, rest, e1, e2, e3, e4, q⟩ => ⟨p, r, c, n, rest, e1, e2, e3, e4, fun d hd => h _ _ (q d hd)⟩⟩
theorem dr_pool {k : Nat} {C : List D → Mem → Prop} {g : List D → Mem → D → Prop} {p r c : Addr} {n : Nat} {rest : List D} {M : Mem} {Q : D → Mem → Prop} (h : M p = some (.pool r c n)) :
    (nDr k C g).f (.ref p :: rest) M Q = (n + k ≤ 1000000000 ∧ C (.ref p :: rest) M ∧ ∀ d, g (.ref p :: rest) M d → Q d (mupd M p (.pool r c (n + k)))) := propext ⟨fun ⟨p', r', c', n', rest', e1, e2, e3, e4, q⟩ => by
  cases e1
  rw [h] at e2; cases e2
  exact ⟨e3, e4, q⟩, fun ⟨e3, e4, q⟩ => ⟨p, r, c, n, rest, rfl, h, e3, e4, q⟩⟩
/-- a def that changes nothing: C what its arguments must be, g what it gives back -/
def nPure (C : List D → Mem → Prop) (g : List D → Mem → D) : WN := ⟨fun ds M Q => C ds M ∧ Q (g ds M) M, fun _ _ _ _ h q => ⟨q.1, h _ _ q.2⟩⟩
/-- a def that gives back a new object -/
def nNew (C : List D → Mem → Prop) (g : List D → Mem → MO) : WN := ⟨fun ds M Q => C ds M ∧ ∀ p, M p = none → Q (.ref p) (mupd M p (g ds M)), fun _ _ _ _ h q => ⟨q.1, fun p hp => h _ _ (q.2 p hp)⟩⟩
/-- a def that changes nothing and gives back some datum of these -/
def nSome (C : List D → Mem → Prop) (g : List D → Mem → D → Prop) : WN := ⟨fun ds M Q => C ds M ∧ ∀ d, g ds M d → Q d M, fun _ _ _ _ h q => ⟨q.1, fun d hd => h _ _ (q.2 d hd)⟩⟩
theorem e_nPure (C : List D → Mem → Prop) (g : List D → Mem → D) (ds : List D) (M : Mem) (Q : D → Mem → Prop) : (nPure C g).f ds M Q = (C ds M ∧ Q (g ds M) M) := rfl
theorem e_nNew (C : List D → Mem → Prop) (g : List D → Mem → MO) (ds : List D) (M : Mem) (Q : D → Mem → Prop) : (nNew C g).f ds M Q = (C ds M ∧ ∀ p, M p = none → Q (.ref p) (mupd M p (g ds M))) := rfl
theorem e_nSome (C : List D → Mem → Prop) (g : List D → Mem → D → Prop) (ds : List D) (M : Mem) (Q : D → Mem → Prop) : (nSome C g).f ds M Q = (C ds M ∧ ∀ d, g ds M d → Q d M) := rfl
/-- what a def ends with -/
def RPure (x : D) (M : Mem) : D → Mem → Prop := fun d M' => d = x ∧ Sub M M'
def RSome (g : D → Prop) (M : Mem) : D → Mem → Prop := fun d M' => g d ∧ Sub M M'
def RNew (g : MO → Prop) (M : Mem) : D → Mem → Prop := fun d M' => ∃ p o, d = .ref p ∧ g o ∧ M p = none ∧ M' p = some o ∧ Sub M M'
def RDr (g : D → Prop) (p r c : Addr) (b : Nat) (M : Mem) : D → Mem → Prop := fun d M' => g d ∧ DrS p r c b M M'
/-- a def's end: what it gives back -/
def rtE (R : D → Mem → Prop) : DEn := { nx := fun _ M' => R .non M', rt := R }
theorem law_pure {n k : Nat} {b : WS} {C : List D → Mem → Prop} {g : List D → Mem → D} (h : ∀ ds M, Cons M → C ds M → ds.length = k ∧ ∀ R : D → Mem → Prop, (∀ M', Sub M M' → R (g ds M) M') → b.f (rtE R) (startD n ds) M) : FnLaw n k b (nPure C g) := fun P w K H ds M Q rm ⟨c, q⟩ => by
  obtain ⟨h1, h2⟩ := h ds M rm.cons c
  refine ⟨h1, M, rm, fun _ z => z, ?_⟩
  refine b.mono (rtE _) _ _ _ ?_ (h2 (RPure (g ds M) M) fun M' s => ⟨rfl, s⟩)
  refine ⟨fun _ M' z => ?_, fun d M' z => ?_, fun _ _ z => z, fun _ _ z => z⟩
  · exact ⟨M, Vw.sub rm.cons z.2, by rw [z.1]; exact q⟩
  · exact ⟨M, Vw.sub rm.cons z.2, by rw [z.1]; exact q⟩
theorem law_some {n k : Nat} {b : WS} {C : List D → Mem → Prop} {g : List D → Mem → D → Prop} (h : ∀ ds M, Cons M → C ds M → ds.length = k ∧ ∀ R : D → Mem → Prop, (∀ d M', g ds M d → Sub M M' → R d M') → b.f (rtE R) (startD n ds) M) : FnLaw n k b (nSome C g) := fun P w K H ds M Q rm ⟨c, q⟩ => by
  obtain ⟨h1, h2⟩ := h ds M rm.cons c
  refine ⟨h1, M, rm, fun _ z => z, ?_⟩
  refine b.mono (rtE _) _ _ _ ?_ (h2 (RSome (g ds M) M) fun d M' a s => ⟨a, s⟩)
  refine ⟨fun _ M' z => ?_, fun d M' z => ?_, fun _ _ z => z, fun _ _ z => z⟩
  · exact ⟨M, Vw.sub rm.cons z.2, q _ z.1⟩
  · exact ⟨M, Vw.sub rm.cons z.2, q _ z.1⟩
theorem law_new {n k : Nat} {b : WS} {C : List D → Mem → Prop} {g : List D → Mem → MO} (hn : ∀ ds M r c n, g ds M ≠ .pool r c n) (h : ∀ ds M, Cons M → C ds M → ds.length = k ∧ ∀ R : D → Mem → Prop, (∀ p M', M p = none → M' p = some (g ds M) → Sub M M' → R (.ref p) M') → b.f (rtE R) (startD n ds) M) : FnLaw n k b (nNew C g) := fun P w K H ds M Q rm ⟨c, q⟩ => by
  obtain ⟨h1, h2⟩ := h ds M rm.cons c
  refine ⟨h1, M, rm, fun _ z => z, ?_⟩
  refine b.mono (rtE _) _ _ _ ?_ (h2 (RNew (· = g ds M) M) fun p M' a b s => ⟨p, _, rfl, rfl, a, b, s⟩)
  refine ⟨fun _ M' z => ?_, fun d M' z => ?_, fun _ _ z => z, fun _ _ z => z⟩
  · obtain ⟨p, o, e, _⟩ := z; cases e
  · obtain ⟨p, o, e, e0, e1, e2, s⟩ := z
    subst e
    cases e0
    exact ⟨_, Vw.new rm.cons s e1 e2 (hn ds M), q p e1⟩
theorem law_dr {n k kk : Nat} {b : WS} {C : List D → Mem → Prop} {g : List D → Mem → D → Prop} (h : ∀ p r c m rest M, Cons M → M p = some (.pool r c m) → m + k ≤ 1000000000 → C (.ref p :: rest) M → (D.ref p :: rest).length = kk ∧ ∀ R : D → Mem → Prop, (∀ d M', g (.ref p :: rest) M d → DrS p r c (m + k) M M' → R d M') → b.f (rtE R) (startD n (.ref p :: rest)) M) : FnLaw n kk b (nDr k C g) := fun P w K H ds M Q rm ⟨p, r, c, m, rest, e1, e2, e3, e4, q⟩ => by
  subst e1
  obtain ⟨h1, h2⟩ := h p r c m rest M rm.cons e2 e3 e4
  refine ⟨h1, M, rm, fun _ z => z, ?_⟩
  refine b.mono (rtE _) _ _ _ ?_ (h2 (RDr (g (.ref p :: rest) M) p r c (m + k) M) fun d M' a s => ⟨a, s⟩)
  refine ⟨fun _ M' z => ?_, fun d M' z => ?_, fun _ _ z => z, fun _ _ z => z⟩
  · exact ⟨_, Vw.wk (rm.cons.ask e2) z.2.wk, q _ z.1⟩
  · exact ⟨_, Vw.wk (rm.cons.ask e2) z.2.wk, q _ z.1⟩

/-! ### loops -/
/-- over the items that are left. In a turn the invariant that is to be reached is told by a letter I (so that no tactic takes it apart): mk makes it -/
theorem loop_rest {g : WG} {b : WS} {stay : Mem → Prop} {A : DEn} (Iv : List D → Sl → Mem → Prop) (step : ∀ (I : List D → Sl → Mem → Prop), (∀ xs ρ M, Iv xs ρ M → I xs ρ M) → ∀ x xs ρ M, Iv (x :: xs) ρ M → stay M ∧ g.f x ρ M fun ρ2 M2 => b.f { A with nx := I xs, ct := I xs, bk := A.nx } ρ2 M2) (fin : ∀ ρ M, Iv [] ρ M → stay M ∧ A.nx ρ M) :
    ∀ (xs : List D) (ρ : Sl) (M : Mem), Iv xs ρ M → loopF g b stay A xs ρ M
  | [], ρ, M, h => fin ρ M h
  | x :: xs, ρ, M, h => by
    obtain ⟨h1, h2⟩ := step Iv (fun _ _ _ z => z) x xs ρ M h
    exact ⟨h1, g.mono _ _ _ _ _ (fun ρ2 M2 q => b.mono { A with nx := Iv xs, ct := Iv xs, bk := A.nx } { A with nx := loopF g b stay A xs, ct := loopF g b stay A xs, bk := A.nx } ρ2 M2 ⟨loop_rest Iv step fin xs, fun _ _ z => z, fun _ _ z => z, loop_rest Iv step fin xs⟩ q) h2⟩
/-- by the items that are done -/
theorem loop_done {g : WG} {b : WS} {stay : Mem → Prop} {A : DEn} (items : List D) (Iv : List D → Sl → Mem → Prop) (step : ∀ (I : List D → Sl → Mem → Prop), (∀ xs ρ M, Iv xs ρ M → I xs ρ M) → ∀ pre x post ρ M, items = pre ++ x :: post → Iv pre ρ M → stay M ∧ g.f x ρ M fun ρ2 M2 => b.f { A with nx := I (pre ++ [x]), ct := I (pre ++ [x]), bk := A.nx } ρ2 M2)
    (fin : ∀ ρ M, Iv items ρ M → stay M ∧ A.nx ρ M) (ρ : Sl) (M : Mem) (h : Iv [] ρ M) : loopF g b stay A items ρ M := by
  refine loop_rest (fun xs ρ M => ∃ pre, items = pre ++ xs ∧ Iv pre ρ M) (fun I mk x xs ρ M ⟨pre, e, h⟩ => ?_) (fun ρ M ⟨pre, e, h⟩ => ?_) items ρ M ⟨[], rfl, h⟩
  · obtain ⟨h1, h2⟩ := step Iv (fun _ _ _ z => z) pre x xs ρ M e h
    refine ⟨h1, g.mono _ _ _ _ _ (fun ρ2 M2 q => b.mono { A with nx := Iv (pre ++ [x]), ct := Iv (pre ++ [x]), bk := A.nx } _ ρ2 M2 ⟨fun ρ3 M3 q3 => ?_, fun _ _ z => z, fun _ _ z => z, fun ρ3 M3 q3 => ?_⟩ q) h2⟩
    · exact mk _ _ _ ⟨pre ++ [x], by rw [e]; simp, q3⟩
    · exact mk _ _ _ ⟨pre ++ [x], by rw [e]; simp, q3⟩
  · rw [List.append_nil] at e
    subst e
    exact fin ρ M h
/-- a range, by the number of turns -/
theorem loop_rng {g : WG} {b : WS} {A : DEn} {lo : Int} {n : Nat} (Iv : Nat → Sl → Mem → Prop) (step : ∀ (I : Nat → Sl → Mem → Prop), (∀ i ρ M, Iv i ρ M → I i ρ M) → ∀ i ρ M, i < n → Iv i ρ M → g.f (.int (lo + (i : Nat))) ρ M fun ρ2 M2 => b.f { A with nx := I (i + 1), ct := I (i + 1), bk := A.nx } ρ2 M2) (fin : ∀ ρ M, Iv n ρ M → A.nx ρ M) (ρ : Sl) (M : Mem) (h : Iv 0 ρ M) :
    loopF g b (fun _ => True) A (rngD lo n) ρ M := by
  have hl : (rngD lo n).length = n := by simp [rngD]
  refine loop_done (rngD lo n) (fun pre ρ M => Iv pre.length ρ M) (fun I mk pre x post ρ M e h => ?_) (fun ρ M h => ?_) ρ M h
  · have hx : (rngD lo n)[pre.length]? = some x := by rw [e]; simp
    obtain ⟨hi, ex⟩ := rngD_get hx
    subst ex
    refine ⟨trivial, g.mono _ _ _ _ _ (fun ρ2 M2 q => b.mono { A with nx := Iv (pre.length + 1), ct := Iv (pre.length + 1), bk := A.nx } _ ρ2 M2 ⟨fun ρ3 M3 q3 => ?_, fun _ _ z => z, fun _ _ z => z, fun ρ3 M3 q3 => ?_⟩ q) (step Iv (fun _ _ _ z => z) pre.length ρ M hi h)⟩
    · exact mk _ _ _ (by simp only [List.length_append, List.length_cons, List.length_nil]; exact q3)
    · exact mk _ _ _ (by simp only [List.length_append, List.length_cons, List.length_nil]; exact q3)
  · rw [hl] at h
    exact ⟨trivial, fin ρ M h⟩
/-- while, by a measure -/
theorem while_of {c : WT} {b : WS} {A : DEn} {ρ : Sl} {M : Mem} (W : Nat → Sl → Mem → Prop) (h0 : ∃ m, W m ρ M) (step : ∀ (I : Nat → Sl → Mem → Prop), (∀ m m' ρ M, m' < m → W m' ρ M → I m ρ M) → ∀ m ρ M, W m ρ M → c.f ρ M fun k M1 =>
    (k = true → b.f { A with nx := I m, ct := I m, bk := A.nx } ρ M1) ∧ (k = false → A.nx ρ M1)) : (sWhile c b).f A ρ M :=
  ⟨W, h0, fun m ρ M hw => step (fun m ρ M => ∃ m', m' < m ∧ W m' ρ M) (fun m m' ρ M h w => ⟨m', h, w⟩) m ρ M hw⟩

/-! ### comprehensions -/
/-- what is kept, what it gives; J: what stands of the memory -/
theorem lc_map {g : WG} {tt : WT} {te : WE} {stay : Mem → Prop} {ρ : Sl} {Q : D → Mem → Prop} (p : D → Bool) (f : D → D) (Jv : Mem → Prop) (items : List D) (step : ∀ (J : Mem → Prop), (∀ M, Jv M → J M) → ∀ x ∈ items, ∀ M, Jv M → stay M ∧ g.f x ρ M fun ρ2 M2 => tt.f ρ2 M2 fun b M3 => b = p x ∧ (b = true → te.f ρ2 M3 fun y M4 => y = f x ∧ J M4) ∧ (b = false → J M3))
    (hl : items.length ≤ sizeLine) (fin : ∀ M, Jv M → stay M ∧ ∀ q, M q = none → Q (.ref q) (mupd M q (.lst ((items.filter p).map f)))) (M : Mem) (h : Jv M) : lcF g tt te stay ρ Q items [] M := by
  have go : ∀ (xs acc : List D) (M : Mem), (∀ x ∈ xs, x ∈ items) → Jv M → acc.length + xs.length ≤ items.length → acc ++ (xs.filter p).map f = (items.filter p).map f → lcF g tt te stay ρ Q xs acc M := by
    intro xs
    induction xs with
    | nil =>
      intro acc M _ h _ e
      obtain ⟨h1, h2⟩ := fin M h
      rw [List.filter_nil, List.map_nil, List.append_nil] at e
      rw [← e] at h2
      exact ⟨h1, h2⟩
    | cons x xs ih =>
      intro acc M hm h hlen e
      rw [List.length_cons] at hlen
      obtain ⟨h1, h2⟩ := step Jv (fun _ z => z) x (hm x List.mem_cons_self) M h
      refine ⟨h1, g.mono _ _ _ _ _ (fun ρ2 M2 q => tt.mono _ _ _ _ (fun b M3 q => ?_) q) h2⟩
      obtain ⟨eb, q1, q2⟩ := q
      subst eb
      refine ⟨fun hb => te.mono _ _ _ _ (fun y M4 q => ?_) (q1 hb), fun hb => ih acc M3 (fun z hz => hm z (List.mem_cons_of_mem _ hz)) (q2 hb) (by omega) ?_⟩
      · obtain ⟨rfl, q⟩ := q
        refine ⟨by omega, ih _ M4 (fun z hz => hm z (List.mem_cons_of_mem _ hz)) q (by rw [List.length_append, List.length_singleton]; omega) ?_⟩
        rw [List.filter_cons_of_pos hb, List.map_cons] at e
        rw [List.append_assoc]; exact e
      · rw [List.filter_cons_of_neg (by rw [hb]; exact Bool.false_ne_true)] at e
        exact e
  exact go items [] M (fun _ h => h) h (by simp) rfl
/-- no test -/
theorem lc_all {g : WG} {te : WE} {stay : Mem → Prop} {ρ : Sl} {Q : D → Mem → Prop} (f : D → D) (Jv : Mem → Prop) (items : List D) (step : ∀ (J : Mem → Prop), (∀ M, Jv M → J M) → ∀ x ∈ items, ∀ M, Jv M → stay M ∧ g.f x ρ M fun ρ2 M2 => te.f ρ2 M2 fun y M4 => y = f x ∧ J M4)
    (hl : items.length ≤ sizeLine) (fin : ∀ M, Jv M → stay M ∧ ∀ q, M q = none → Q (.ref q) (mupd M q (.lst (items.map f)))) (M : Mem) (h : Jv M) : lcF g wtYes te stay ρ Q items [] M := by
  have e : items.filter (fun _ => true) = items := List.filter_eq_self.mpr fun _ _ => rfl
  refine lc_map (fun _ => true) f Jv items (fun J mk x hx M h => ?_) hl (fun M h => by rw [e]; exact fin M h) M h
  obtain ⟨h1, h2⟩ := step J mk x hx M h
  exact ⟨h1, g.mono _ _ _ _ _ (fun ρ2 M2 q => ⟨rfl, fun _ => q, fun z => by cases z⟩) h2⟩
/-- some datum each, by a relation; J by the number of data made -/
theorem lc_rel {g : WG} {te : WE} {stay : Mem → Prop} {ρ : Sl} {Q : D → Mem → Prop} (R : D → Prop) (Jv : Nat → Mem → Prop) (items : List D) (step : ∀ (J : Nat → Mem → Prop), (∀ i M, Jv i M → J i M) → ∀ (G : D → Nat → Mem → Prop), (∀ y i M, R y → Jv i M → G y i M) → ∀ i x, i < items.length → x ∈ items → ∀ M, Jv i M → stay M ∧ g.f x ρ M fun ρ2 M2 => te.f ρ2 M2 fun y M4 => G y (i + 1) M4)
    (hl : items.length ≤ sizeLine) (fin : ∀ M ys, Jv items.length M → ys.length = items.length → (∀ y ∈ ys, R y) → stay M ∧ ∀ q, M q = none → Q (.ref q) (mupd M q (.lst ys))) (M : Mem) (h : Jv 0 M) : lcF g wtYes te stay ρ Q items [] M := by
  have go : ∀ (xs acc : List D) (M : Mem), (∀ x ∈ xs, x ∈ items) → Jv acc.length M → acc.length + xs.length = items.length → (∀ y ∈ acc, R y) → lcF g wtYes te stay ρ Q xs acc M := by
    intro xs
    induction xs with
    | nil =>
      intro acc M _ h hlen hr
      have hl' : acc.length = items.length := by simpa using hlen
      obtain ⟨h1, h2⟩ := fin M acc (by rw [← hl']; exact h) hl' hr
      exact ⟨h1, h2⟩
    | cons x xs ih =>
      intro acc M hm h hlen hr
      rw [List.length_cons] at hlen
      obtain ⟨h1, h2⟩ := step Jv (fun _ _ z => z) (fun y i M => R y ∧ Jv i M) (fun _ _ _ a b => ⟨a, b⟩) acc.length x (by omega) (hm x List.mem_cons_self) M h
      refine ⟨h1, g.mono _ _ _ _ _ (fun ρ2 M2 q => ⟨fun _ => te.mono _ _ _ _ (fun y M4 q => ?_) q, fun z => by cases z⟩) h2⟩
      refine ⟨by omega, ih _ M4 (fun z hz => hm z (List.mem_cons_of_mem _ hz)) (by rw [List.length_append, List.length_singleton]; exact q.2) (by rw [List.length_append, List.length_singleton]; omega) fun y' hy => ?_⟩
      rcases List.mem_append.mp hy with hy | hy
      · exact hr y' hy
      · rw [List.mem_singleton.mp hy]; exact q.1
  exact go items [] M (fun _ h => h) h (by simp) (fun y hy => by cases hy)
/-! ### over lists of one kind -/
theorem loop_enc {α : Type} (enc : α → D) {g : WG} {b : WS} {stay : Mem → Prop} {A : DEn} (items : List α) (Iv : List α → Sl → Mem → Prop) (step : ∀ (I : List α → Sl → Mem → Prop), (∀ xs ρ M, Iv xs ρ M → I xs ρ M) → ∀ pre x post ρ M, items = pre ++ x :: post → Iv pre ρ M → stay M ∧ g.f (enc x) ρ M fun ρ2 M2 => b.f { A with nx := I (pre ++ [x]), ct := I (pre ++ [x]), bk := A.nx } ρ2 M2)
    (fin : ∀ ρ M, Iv items ρ M → stay M ∧ A.nx ρ M) (ρ : Sl) (M : Mem) (h : Iv [] ρ M) : loopF g b stay A (items.map enc) ρ M := by
  refine loop_rest (fun xs ρ M => ∃ pre post, items = pre ++ post ∧ xs = post.map enc ∧ Iv pre ρ M) (fun I mk x xs ρ M ⟨pre, post, e, ex, h⟩ => ?_) (fun ρ M ⟨pre, post, e, ex, h⟩ => ?_) _ ρ M ⟨[], items, rfl, rfl, h⟩
  · cases post with
    | nil => simp at ex
    | cons y post =>
      rw [List.map_cons] at ex
      injection ex with e1 e2
      subst e1 e2
      obtain ⟨h1, h2⟩ := step Iv (fun _ _ _ z => z) pre y post ρ M e h
      refine ⟨h1, g.mono _ _ _ _ _ (fun ρ2 M2 q => b.mono { A with nx := Iv (pre ++ [y]), ct := Iv (pre ++ [y]), bk := A.nx } _ ρ2 M2 ⟨fun ρ3 M3 q3 => ?_, fun _ _ z => z, fun _ _ z => z, fun ρ3 M3 q3 => ?_⟩ q) h2⟩
      · exact mk _ _ _ ⟨pre ++ [y], post, by rw [e]; simp, rfl, q3⟩
      · exact mk _ _ _ ⟨pre ++ [y], post, by rw [e]; simp, rfl, q3⟩
  · have : post = [] := by cases post with | nil => rfl | cons y post => simp at ex
    subst this
    rw [List.append_nil] at e
    subst e
    exact fin ρ M h
theorem lc_encf {α : Type} (enc : α → D) {g : WG} {tt : WT} {te : WE} {stay : Mem → Prop} {ρ : Sl} {Q : D → Mem → Prop} (p : α → Bool) (f : α → D) (Jv : Mem → Prop) (items : List α) (step : ∀ (J : Mem → Prop), (∀ M, Jv M → J M) → ∀ x ∈ items, ∀ M, Jv M → stay M ∧ g.f (enc x) ρ M fun ρ2 M2 => tt.f ρ2 M2 fun b M3 => b = p x ∧ (b = true → te.f ρ2 M3 fun y M4 => y = f x ∧ J M4) ∧ (b = false → J M3))
    (hl : items.length ≤ sizeLine) (fin : ∀ M, Jv M → stay M ∧ ∀ q, M q = none → Q (.ref q) (mupd M q (.lst ((items.filter p).map f)))) (M : Mem) (h : Jv M) : lcF g tt te stay ρ Q (items.map enc) [] M := by
  have go : ∀ (xs : List α) (acc : List D) (M : Mem), (∀ x ∈ xs, x ∈ items) → Jv M → acc.length + xs.length ≤ items.length → acc ++ (xs.filter p).map f = (items.filter p).map f → lcF g tt te stay ρ Q (xs.map enc) acc M := by
    intro xs
    induction xs with
    | nil =>
      intro acc M _ h _ e
      obtain ⟨h1, h2⟩ := fin M h
      rw [List.filter_nil, List.map_nil, List.append_nil] at e
      rw [← e] at h2
      exact ⟨h1, h2⟩
    | cons x xs ih =>
      intro acc M hm h hlen e
      rw [List.length_cons] at hlen
      obtain ⟨h1, h2⟩ := step Jv (fun _ z => z) x (hm x List.mem_cons_self) M h
      refine ⟨h1, g.mono _ _ _ _ _ (fun ρ2 M2 q => tt.mono _ _ _ _ (fun b M3 q => ?_) q) h2⟩
      obtain ⟨eb, q1, q2⟩ := q
      subst eb
      refine ⟨fun hb => te.mono _ _ _ _ (fun y M4 q => ?_) (q1 hb), fun hb => ih acc M3 (fun z hz => hm z (List.mem_cons_of_mem _ hz)) (q2 hb) (by omega) ?_⟩
      · obtain ⟨rfl, q⟩ := q
        refine ⟨by omega, ih _ M4 (fun z hz => hm z (List.mem_cons_of_mem _ hz)) q (by rw [List.length_append, List.length_singleton]; omega) ?_⟩
        rw [List.filter_cons_of_pos hb, List.map_cons] at e
        rw [List.append_assoc]; exact e
      · rw [List.filter_cons_of_neg (by rw [hb]; exact Bool.false_ne_true)] at e
        exact e
  exact go items [] M (fun _ h => h) h (by simp) rfl
theorem lc_enc {α : Type} (enc : α → D) {g : WG} {te : WE} {stay : Mem → Prop} {ρ : Sl} {Q : D → Mem → Prop} (f : α → D) (Jv : Mem → Prop) (items : List α) (step : ∀ (J : Mem → Prop), (∀ M, Jv M → J M) → ∀ x ∈ items, ∀ M, Jv M → stay M ∧ g.f (enc x) ρ M fun ρ2 M2 => te.f ρ2 M2 fun y M4 => y = f x ∧ J M4)
    (hl : items.length ≤ sizeLine) (fin : ∀ M, Jv M → stay M ∧ ∀ q, M q = none → Q (.ref q) (mupd M q (.lst (items.map f)))) (M : Mem) (h : Jv M) : lcF g wtYes te stay ρ Q (items.map enc) [] M := by
  have e : items.filter (fun _ => true) = items := List.filter_eq_self.mpr fun _ _ => rfl
  refine lc_encf enc (fun _ => true) f Jv items (fun J mk x hx M h => ?_) hl (fun M h => by rw [e]; exact fin M h) M h
  obtain ⟨h1, h2⟩ := step J mk x hx M h
  exact ⟨h1, g.mono _ _ _ _ _ (fun ρ2 M2 q => ⟨rfl, fun _ => q, fun z => by cases z⟩) h2⟩
theorem dc_enc {α : Type} (enc : α → D) {g : WG} {tk te : WE} {stay : Mem → Prop} {ρ : Sl} {Q : D → Mem → Prop} (k v : α → D) (Jv : Mem → Prop) (items : List α) (step : ∀ (J : Mem → Prop), (∀ M, Jv M → J M) → ∀ x ∈ items, ∀ M, Jv M → (k x).pkey.isSome = true ∧ stay M ∧ g.f (enc x) ρ M fun ρ2 M2 => tk.f ρ2 M2 fun y M3 => te.f ρ2 M3 fun z M4 => y = k x ∧ z = v x ∧ J M4)
    (hl : items.length ≤ sizeLine) (fin : ∀ M, Jv M → stay M ∧ ∀ q, M q = none → Q (.ref q) (mupd M q (.dic (items.foldl (fun acc x => dputD acc (k x) (v x)) [])))) (M : Mem) (h : Jv M) : dcF g wtYes tk te stay ρ Q (items.map enc) [] M := by
  have go : ∀ (xs : List α) (acc : List (D × D)) (M : Mem), (∀ x ∈ xs, x ∈ items) → Jv M → acc.length + xs.length ≤ items.length → xs.foldl (fun acc x => dputD acc (k x) (v x)) acc = items.foldl (fun acc x => dputD acc (k x) (v x)) [] → dcF g wtYes tk te stay ρ Q (xs.map enc) acc M := by
    intro xs
    induction xs with
    | nil =>
      intro acc M _ h _ e
      obtain ⟨h1, h2⟩ := fin M h
      rw [← e] at h2
      exact ⟨h1, h2⟩
    | cons x xs ih =>
      intro acc M hm h hlen e
      rw [List.length_cons] at hlen
      obtain ⟨h0, h1, h2⟩ := step Jv (fun _ z => z) x (hm x List.mem_cons_self) M h
      refine ⟨h1, g.mono _ _ _ _ _ (fun ρ2 M2 q => ⟨fun _ => tk.mono _ _ _ _ (fun y M3 q => te.mono _ _ _ _ (fun z M4 q => ?_) q) q, fun z => by cases z⟩) h2⟩
      obtain ⟨rfl, rfl, q⟩ := q
      refine ⟨h0, by omega, ih _ M4 (fun z hz => hm z (List.mem_cons_of_mem _ hz)) q (by have := dput_len acc (k x) (v x); omega) e⟩
  exact go items [] M (fun _ h => h) h (by simp) rfl
theorem dget_put (kvs : List (D × D)) (d x e : D) : (dgetD (dputD kvs d x) e).isSome = ((dgetD kvs e).isSome || decide (d.key = e.key)) := by
  rw [← any_dget, ← any_dget]
  unfold dputD
  split
  · rename_i h
    rw [List.any_map]
    have : ((fun p : D × D => decide (p.1.key = e.key)) ∘ fun p => if p.1.key = d.key then (p.1, x) else p) = fun p => decide (p.1.key = e.key) := by
      funext p
      simp only [Function.comp]
      split <;> rfl
    rw [this]
    by_cases hd : d.key = e.key
    · rw [decide_eq_true hd, Bool.or_true, ← hd]; exact h
    · rw [decide_eq_false hd, Bool.or_false]
  · rw [List.any_append]
    simp
theorem dput_keys {kvs : List (D × D)} {d x : D} (h : ∀ p ∈ kvs, p.1.pkey.isSome = true) (hd : d.pkey.isSome = true) : ∀ p ∈ dputD kvs d x, p.1.pkey.isSome = true := by
  intro p hp
  unfold dputD at hp
  split at hp
  · obtain ⟨q, hq, e⟩ := List.mem_map.mp hp
    split at e
    · rw [← e]; exact h q hq
    · rw [← e]; exact h q hq
  · rcases List.mem_append.mp hp with hp | hp
    · exact h p hp
    · rw [List.mem_singleton.mp hp]; exact hd
theorem dputs_keys {α : Type} (k v : α → D) (hk : ∀ x, (k x).pkey.isSome = true) : ∀ (xs : List α) (acc : List (D × D)), (∀ p ∈ acc, p.1.pkey.isSome = true) → ∀ p ∈ xs.foldl (fun acc x => dputD acc (k x) (v x)) acc, p.1.pkey.isSome = true
  | [], _, h => h
  | x :: xs, acc, h => dputs_keys k v hk xs _ (dput_keys h (hk x))
theorem dputs_get {α : Type} (k v : α → D) (e : D) : ∀ (xs : List α) (acc : List (D × D)), (dgetD (xs.foldl (fun acc x => dputD acc (k x) (v x)) acc) e).isSome = ((dgetD acc e).isSome || xs.any fun x => decide ((k x).key = e.key))
  | [], acc => by simp
  | x :: xs, acc => by
    rw [List.foldl_cons, dputs_get k v e xs, dget_put, List.any_cons, Bool.or_assoc]
/-- two for, no test -/
theorem lc2_enc {α β : Type} (enc : α → D) (enc1 : β → D) {g : WG} {wi1 : WI} {g1 : WG} {te : WE} {vs1 : List Nat} {stay : Mem → Prop} {ρ : Sl} {Q : D → Mem → Prop} (inner : α → List β) (f : α → β → D) (Jv : Mem → Prop) (items : List α)
    (step : ∀ (J : Mem → Prop), (∀ M, Jv M → J M) → ∀ x ∈ items, ∀ M, Jv M → stay M ∧ g.f (enc x) ρ M fun ρ2 M2 => wi1.f ρ2 M2 fun items1 stay1 M3 => items1 = (inner x).map enc1 ∧ J M3 ∧ (∀ M, Jv M → stay1 M) ∧ ∀ y ∈ inner x, ∀ M, Jv M → g1.f (enc1 y) (wipeD ρ2 vs1) M fun ρ3 M5 => te.f ρ3 M5 fun z M6 => z = f x y ∧ J M6)
    (hl : ((items.map fun x => (inner x).map (f x)).flatten).length ≤ sizeLine) (fin : ∀ M, Jv M → stay M ∧ ∀ q, M q = none → Q (.ref q) (mupd M q (.lst ((items.map fun x => (inner x).map (f x)).flatten)))) (M : Mem) (h : Jv M) : lc2F g wtYes wi1 g1 wtYes te vs1 stay ρ Q (items.map enc) [] M := by
  have inn : ∀ (x : α) (ρ2 : Sl) (stay1 : Mem → Prop) (N : List D → Mem → Prop), (∀ M, Jv M → stay1 M) → (∀ y ∈ inner x, ∀ M, Jv M → g1.f (enc1 y) (wipeD ρ2 vs1) M fun ρ3 M5 => te.f ρ3 M5 fun z M6 => z = f x y ∧ Jv M6) →
      ∀ (ys : List β) (acc : List D) (M : Mem), (∀ y ∈ ys, y ∈ inner x) → Jv M → acc.length + ys.length ≤ sizeLine → (∀ M, Jv M → N (acc ++ ys.map (f x)) M) → lc2G g1 wtYes te stay1 (wipeD ρ2 vs1) N (ys.map enc1) acc M := by
    intro x ρ2 stay1 N hst hy ys
    induction ys with
    | nil =>
      intro acc M _ h _ hN
      rw [List.map_nil, List.append_nil] at hN
      exact ⟨hst M h, hN M h⟩
    | cons y ys ih =>
      intro acc M hm h hlen hN
      rw [List.length_cons] at hlen
      refine ⟨hst M h, g1.mono _ _ _ _ _ (fun ρ3 M5 q => ⟨fun _ => te.mono _ _ _ _ (fun z M6 q => ?_) q, fun z => by cases z⟩) (hy y (hm y List.mem_cons_self) M h)⟩
      obtain ⟨rfl, q⟩ := q
      refine ⟨by omega, ih _ M6 (fun z hz => hm z (List.mem_cons_of_mem _ hz)) q (by rw [List.length_append, List.length_singleton]; omega) ?_⟩
      intro M' h'
      have := hN M' h'
      rw [List.map_cons] at this
      rw [List.append_assoc]; exact this
  have go : ∀ (xs : List α) (acc : List D) (M : Mem), (∀ x ∈ xs, x ∈ items) → Jv M → acc.length + ((xs.map fun x => (inner x).map (f x)).flatten).length ≤ sizeLine → acc ++ (xs.map fun x => (inner x).map (f x)).flatten = (items.map fun x => (inner x).map (f x)).flatten → lc2F g wtYes wi1 g1 wtYes te vs1 stay ρ Q (xs.map enc) acc M := by
    intro xs
    induction xs with
    | nil =>
      intro acc M _ h _ e
      obtain ⟨h1, h2⟩ := fin M h
      rw [List.map_nil, List.flatten_nil, List.append_nil] at e
      rw [← e] at h2
      exact ⟨h1, h2⟩
    | cons x xs ih =>
      intro acc M hm h hlen e
      rw [List.map_cons, List.flatten_cons, List.length_append, List.length_map] at hlen
      obtain ⟨h1, h2⟩ := step Jv (fun _ z => z) x (hm x List.mem_cons_self) M h
      refine ⟨h1, g.mono _ _ _ _ _ (fun ρ2 M2 q => ⟨fun _ => wi1.mono _ _ _ _ (fun items1 stay1 M3 q => ?_) q, fun z => by cases z⟩) h2⟩
      obtain ⟨rfl, hj, hst, hy⟩ := q
      refine inn x ρ2 stay1 _ hst hy (inner x) acc M3 (fun _ z => z) hj (by omega) fun M4 h4 => ?_
      refine ih _ M4 (fun z hz => hm z (List.mem_cons_of_mem _ hz)) h4 (by rw [List.length_append, List.length_map]; omega) ?_
      rw [List.map_cons, List.flatten_cons] at e
      rw [List.append_assoc]; exact e
  exact go items [] M (fun _ h => h) h (by simpa using hl) rfl
/-- a range's items -/
def riD (lo : Int) (i : Nat) : D := .int (lo + (i : Nat))
theorem rng_enc (lo : Int) (n : Nat) : rngD lo n = (List.range n).map (riD lo) := rfl
/-! ### a block cut in two -/
theorem seq_cut {a b : WS} {A : DEn} {ρ : Sl} {M : Mem} (Iv : Sl → Mem → Prop) (h1 : ∀ (I : Sl → Mem → Prop), (∀ ρ M, Iv ρ M → I ρ M) → a.f { A with nx := I } ρ M) (h2 : ∀ ρ M, Iv ρ M → b.f A ρ M) : (sSeq a b).f A ρ M :=
  a.mono { A with nx := Iv } { A with nx := b.f A } ρ M ⟨h2, fun _ _ z => z, fun _ _ z => z, fun _ _ z => z⟩ (h1 Iv fun _ _ z => z)
end MP

namespace MP
open PySem PySem.Spec PyProof.Rows L2

/-! ### == where no truth value and no float stands -/
mutual
def D.nb : D → Bool
  | .non => true
  | .int _ => true
  | .str _ => true
  | .tup xs => D.nbs xs
  | _ => false
def D.nbs : List D → Bool
  | [] => true
  | x :: xs => D.nb x && D.nbs xs
end
mutual
theorem nb_pl : ∀ (d : D), d.nb = true → d.pl
  | .non, _ => rfl
  | .int _, _ => rfl
  | .str _, _ => rfl
  | .tup xs, h => by simp only [D.nb] at h; simp only [D.pl, D.py, PyData.plain]; exact nbs_pls xs h
  | .bl _, h => by simp [D.nb] at h
  | .fl _, h => by simp [D.nb] at h
  | .ref _, h => by simp [D.nb] at h
  | .ty _, h => by simp [D.nb] at h
theorem nbs_pls : ∀ (ds : List D), D.nbs ds = true → D.pls ds
  | [], _ => rfl
  | d :: ds, h => by
    simp only [D.nbs, Bool.and_eq_true] at h
    simp only [D.pls, D.pys, PyData.plainAll, Bool.and_eq_true]
    exact ⟨nb_pl d h.1, nbs_pls ds h.2⟩
end
mutual
theorem eqD_iff : ∀ (d e : D), d.nb = true → e.nb = true → (eqD d e = true ↔ d = e)
  | .non, e, _, h => by cases e <;> simp [eqD, D.py, PyData.eqv, D.nb] at h ⊢
  | .int i, e, _, h => by cases e <;> simp [eqD, D.py, PyData.eqv, D.nb] at h ⊢
  | .str x, e, _, h => by cases e <;> simp [eqD, D.py, PyData.eqv, D.nb] at h ⊢
  | .tup xs, e, g, h => by
    cases e <;> simp [eqD, D.py, PyData.eqv, D.nb] at h ⊢
    exact eqDs_iff xs _ (by simpa [D.nb] using g) h
  | .bl _, _, g, _ => by simp [D.nb] at g
  | .fl _, _, g, _ => by simp [D.nb] at g
  | .ref _, _, g, _ => by simp [D.nb] at g
  | .ty _, _, g, _ => by simp [D.nb] at g
theorem eqDs_iff : ∀ (ds es : List D), D.nbs ds = true → D.nbs es = true → (PyData.eqvAll (D.pys ds) (D.pys es) = true ↔ ds = es)
  | [], [], _, _ => by simp [D.pys, PyData.eqvAll]
  | [], _ :: _, _, _ => by simp [D.pys, PyData.eqvAll]
  | _ :: _, [], _, _ => by simp [D.pys, PyData.eqvAll]
  | d :: ds, e :: es, h1, h2 => by
    simp only [D.nbs, Bool.and_eq_true] at h1 h2
    simp only [D.pys, PyData.eqvAll, Bool.and_eq_true, List.cons.injEq]
    rw [eqDs_iff ds es h1.2 h2.2]
    have := eqD_iff d e h1.1 h2.1
    unfold eqD at this
    rw [this]
end
theorem eqD_dec {α : Type} [DecidableEq α] (enc : α → D) (hn : ∀ a, (enc a).nb = true) (hi : ∀ a b, enc a = enc b → a = b) (a b : α) : eqD (enc a) (enc b) = decide (a = b) := by
  have h := eqD_iff (enc a) (enc b) (hn a) (hn b)
  by_cases e : a = b
  · rw [decide_eq_true e]; exact h.mpr (by rw [e])
  · rw [decide_eq_false e]
    exact Bool.eq_false_iff.mpr fun z => e (hi a b (h.mp z))
theorem nbs_map {α : Type} (enc : α → D) (hn : ∀ a, (enc a).nb = true) : ∀ xs : List α, D.nbs (xs.map enc) = true
  | [] => rfl
  | x :: xs => by simp only [List.map_cons, D.nbs, hn x, nbs_map enc hn xs, Bool.and_self]
theorem map_inj {α : Type} (enc : α → D) (hi : ∀ a b, enc a = enc b → a = b) : ∀ (xs ys : List α), xs.map enc = ys.map enc → xs = ys
  | [], [], _ => rfl
  | [], _ :: _, h => by simp at h
  | _ :: _, [], h => by simp at h
  | x :: xs, y :: ys, h => by
    simp only [List.map_cons, List.cons.injEq] at h
    rw [hi x y h.1, map_inj enc hi xs ys h.2]
theorem any_enc {α : Type} [DecidableEq α] (enc : α → D) (hn : ∀ a, (enc a).nb = true) (hi : ∀ a b, enc a = enc b → a = b) (xs : List α) (a : α) : ((xs.map enc).any fun x => eqD x (enc a)) = decide (a ∈ xs) := by
  rw [List.any_map]
  induction xs with
  | nil => rfl
  | cons x xs ih =>
    rw [List.any_cons, ih]
    simp only [Function.comp, eqD_dec enc hn hi, List.mem_cons]
    by_cases e : x = a
    · simp [e]
    · have : ¬ a = x := fun z => e z.symm
      simp [e, this]
theorem deps_map {α : Type} (enc : α → D) (n : Nat) (h : ∀ a, (enc a).dep ≤ n) : ∀ xs : List α, D.deps (xs.map enc) ≤ n
  | [] => Nat.zero_le _
  | x :: xs => by
    have h1 := h x
    have h2 := deps_map enc n h xs
    simp only [D.deps, D.dep, List.map_cons, D.pys, PyData.depthAll] at h1 h2 ⊢
    omega
theorem dep_tup (xs : List D) : (D.tup xs).dep = D.deps xs + 1 := by simp only [D.dep, D.py, PyData.depth, D.deps]

/-! ### sorting by insertion -/
def insB {α : Type} (le : α → α → Bool) (a : α) : List α → List α
  | [] => [a]
  | b :: bs => if le a b then a :: b :: bs else b :: insB le a bs
def isortB {α : Type} (le : α → α → Bool) : List α → List α
  | [] => []
  | a :: as => insB le a (isortB le as)
section
variable {α : Type} {le : α → α → Bool}
theorem insB_perm (a : α) : ∀ bs : List α, (insB le a bs).Perm (a :: bs)
  | [] => .refl _
  | b :: bs => by
    unfold insB
    split
    · exact .refl _
    · exact ((insB_perm a bs).cons b).trans (.swap _ _ _)
theorem isortB_perm : ∀ as : List α, (isortB le as).Perm as
  | [] => .refl _
  | a :: as => (insB_perm a _).trans ((isortB_perm as).cons a)
theorem insB_sorted (tr : ∀ a b c, le a b = true → le b c = true → le a c = true) (to : ∀ a b, (le a b || le b a) = true) (a : α) : ∀ bs : List α, bs.Pairwise (fun x y => le x y = true) → (insB le a bs).Pairwise (fun x y => le x y = true)
  | [], _ => by simp [insB]
  | b :: bs, h => by
    have h' := List.pairwise_cons.mp h
    unfold insB
    split
    · rename_i hab
      exact List.pairwise_cons.mpr ⟨fun x hx => by
        rcases List.mem_cons.mp hx with rfl | hx
        · exact hab
        · exact tr a b x hab (h'.1 x hx), h⟩
    · rename_i hab
      refine List.pairwise_cons.mpr ⟨fun x hx => ?_, insB_sorted tr to a bs h'.2⟩
      rcases List.mem_cons.mp ((insB_perm a bs).mem_iff.mp hx) with rfl | hx
      · have := to x b
        rw [Bool.or_eq_true] at this
        rcases this with z | z
        · exact absurd z hab
        · exact z
      · exact h'.1 x hx
theorem isortB_sorted (tr : ∀ a b c, le a b = true → le b c = true → le a c = true) (to : ∀ a b, (le a b || le b a) = true) : ∀ as : List α, (isortB le as).Pairwise (fun x y => le x y = true)
  | [] => .nil
  | a :: as => insB_sorted tr to a _ (isortB_sorted tr to as)
theorem mergeSort_isort (tr : ∀ a b c, le a b = true → le b c = true → le a c = true) (to : ∀ a b, (le a b || le b a) = true) (an : ∀ a b, le a b = true → le b a = true → a = b) (as : List α) : as.mergeSort le = isortB le as :=
  List.Perm.eq_of_pairwise (le := fun x y => le x y = true) (fun a b _ _ h1 h2 => an a b h1 h2) (List.pairwise_mergeSort tr to as) (isortB_sorted tr to as) ((List.mergeSort_perm as le).trans (isortB_perm as).symm)
theorem sortD_enc (enc : α → D) (he : ∀ a b, le a b = !(PySem.W.dataLt (enc b).py (enc a).py)) (tr : ∀ a b c, le a b = true → le b c = true → le a c = true) (to : ∀ a b, (le a b || le b a) = true) (an : ∀ a b, le a b = true → le b a = true → a = b) (as : List α) :
    sortD (as.map enc) = (isortB le as).map enc := by
  rw [← mergeSort_isort tr to an, List.map_mergeSort (s := PySem.W.dataLe false D.py)]
  · rfl
  · intro a _ b _
    rw [he, PySem.W.dataLe_eq]; rfl
end

/-! ### pairs of ints -/
def ipD (x : Int × Int) : D := .tup [.int x.1, .int x.2]
theorem ipD_nb (x : Int × Int) : (ipD x).nb = true := rfl
theorem ipD_inj (x y : Int × Int) (h : ipD x = ipD y) : x = y := by
  obtain ⟨a, b⟩ := x
  obtain ⟨c, d⟩ := y
  simp only [ipD, D.tup.injEq, List.cons.injEq, D.int.injEq, and_true] at h
  rw [h.1, h.2]
theorem ipD_dep (x : Int × Int) : (ipD x).dep = 1 := rfl
theorem ipD_pl (x : Int × Int) : (ipD x).pl := rfl
/-- a tuple of pairs -/
def rowD (r : List (Int × Int)) : D := .tup (r.map ipD)
theorem rowD_nb (r : List (Int × Int)) : (rowD r).nb = true := by
  show D.nbs (r.map ipD) = true
  exact nbs_map ipD ipD_nb r
theorem rowD_inj (x y : List (Int × Int)) (h : rowD x = rowD y) : x = y := by
  simp only [rowD, D.tup.injEq] at h
  exact map_inj ipD ipD_inj x y h
theorem rowD_dep (r : List (Int × Int)) : (rowD r).dep ≤ 2 := by
  have := deps_map ipD 1 (fun a => Nat.le_of_eq (ipD_dep a)) r
  rw [rowD, dep_tup]; omega
theorem rowD_pl (r : List (Int × Int)) : (rowD r).pl := nb_pl _ (rowD_nb r)
end MP

namespace MP
open PySem PySem.Spec PyProof.Rows L2

local macro_rules | `(tactic| walk_at "mp1") => `(tactic| simp only [e_wVar, e_wC, e_wOp, e_wUn, e_aNil, e_aCons, e_wCB, e_wCK, e_wTup, e_wLst, e_wtB, e_wtV, e_wtNot, e_wtAnd, e_wtOr, e_wAnd, e_wOr, e_wNot, e_wIf, e_wChain, e_wSl, e_oNone, e_oSome, e_wBM, e_wLc, e_wLc2, e_wDc, e_wtYes, e_sNil, e_sSeq, e_sBreak, e_sCont, e_sDrop, e_sRet, e_sRetN, e_sIf, e_sAsg, e_sPar, e_sAug, e_sFor, e_gN, e_gsNil, e_gsCons, e_gT, e_gSubD, e_iSeq, e_iR1, e_iR2, e_iEnumL, e_iZipW, e_mAppend, e_mExtend, e_mIndex, e_nLen, e_nTuple, e_nList, e_nBls, e_rIx, e_nSorted, e_nBest, e_kBestD, e_rAdd_int, e_rAdd_tup, e_rAdd_str, e_rAdd_ref, e_rSub_int, e_rMulA_int, e_rMulA_tup, e_rMulA_ref, e_rFdiv_int, e_rMod_int, e_rPow_int, e_rLe_int, e_rGt_int, e_rGe_int, e_rLt_int, e_rLt_tup, e_rEqn_int, e_rEqn_str, e_rEqn_bl, e_rEqn_tup, e_rEqn_ref, e_rIsn_non, e_rIsn_bl, e_rInn_tup, e_rNeg_int, e_ix_tup, e_ix_fl, len_tup, len_fl, items_tup, items_fl, iseq_tup, iseq_fl, e_nInt_int, e_nInt_bl, e_nInt1_int, e_nInt2_int, e_nIsi_2, e_r2F, e_tru_bl, e_tru_int, e_tru_tup, tn_int, tn_bl, tn_str, tn_non, tn_tup, tn_fl, kb_int_int, kb_int_bool, kb_int_str, kb_int_tuple, kb_int_list, kb_bool_int, kb_bool_bool, kb_bool_str, kb_bool_tuple, kb_bool_list, kb_str_int, kb_str_bool, kb_str_str, kb_str_tuple, kb_str_list, kb_NoneType_int, kb_NoneType_bool, kb_NoneType_str, kb_NoneType_tuple, kb_NoneType_list, kb_tuple_int, kb_tuple_bool, kb_tuple_str, kb_tuple_tuple, kb_tuple_list, kb_list_int, kb_list_bool, kb_list_str, kb_list_tuple, kb_list_list, s_at0, s_at1, s_at2, s_at3, s_at4, s_ex2, startD, List.map_cons, List.map_nil, List.length_cons, List.length_nil, List.replicate_succ, List.replicate_zero, List.cons_append, List.nil_append, List.append_nil, Nat.sub_self, Nat.reduceAdd, Nat.reduceSub, List.getElem?_cons_zero, List.getElem?_cons_succ, List.getElem?_nil, Option.some.injEq, reduceCtorEq, false_and, and_false, exists_false, exists_eq_left', exists_and_left, exists_and_right, exists_eq_right, D.int.injEq, D.bl.injEq, D.str.injEq, D.tup.injEq, D.ref.injEq, D.ty.injEq, List.cons.injEq, and_self, true_and, and_true, exists_eq_left, List.set_cons_zero, List.set_cons_succ, wipeD, forall_const, if_true, false_implies, true_implies, implies_true, Bool.false_eq_true, Bool.true_eq_false, eq_self_iff_true, xor_f, xor_t, Bool.not_true, Bool.not_false, decide_eq_true_eq, decide_eq_false_iff_not])
local macro_rules | `(tactic| walk_at "mp") => `(tactic| (try dsimp only); (try walk_at "mp1"))
local macro_rules | `(tactic| walk_at "cm") => `(tactic| first | exact cmul_r ⟨by decide, by decide⟩ | exact cmul_l ⟨by decide, by decide⟩ | exact cmul_r ⟨by omega, by omega⟩ | exact cmul_l ⟨by omega, by omega⟩)
/-! ### the laws' own helpers -/
def nNewS (C : List D → Mem → Prop) (g : List D → Mem → MO → Prop) : WN := ⟨fun ds M Q => C ds M ∧ ∀ o, g ds M o → ∀ p, M p = none → Q (.ref p) (mupd M p o), fun _ _ _ _ h q => ⟨q.1, fun o ho p hp => h _ _ (q.2 o ho p hp)⟩⟩
theorem e_nNewS (C : List D → Mem → Prop) (g : List D → Mem → MO → Prop) (ds : List D) (M : Mem) (Q : D → Mem → Prop) : (nNewS C g).f ds M Q = (C ds M ∧ ∀ o, g ds M o → ∀ p, M p = none → Q (.ref p) (mupd M p o)) := rfl
theorem law_newS {n k : Nat} {b : WS} {C : List D → Mem → Prop} {g : List D → Mem → MO → Prop} (hn : ∀ ds M r c n, ¬ g ds M (.pool r c n)) (h : ∀ ds M, Cons M → C ds M → ds.length = k ∧ ∀ R : D → Mem → Prop, (∀ p o M', g ds M o → M p = none → M' p = some o → Sub M M' → R (.ref p) M') → b.f (rtE R) (startD n ds) M) : FnLaw n k b (nNewS C g) := fun P w K H ds M Q rm ⟨c, q⟩ => by
  obtain ⟨h1, h2⟩ := h ds M rm.cons c
  refine ⟨h1, M, rm, fun _ z => z, ?_⟩
  refine b.mono (rtE _) _ _ _ ?_ (h2 (RNew (g ds M) M) fun p o M' a b c s => ⟨p, o, rfl, a, b, c, s⟩)
  refine ⟨fun _ M' z => ?_, fun d M' z => ?_, fun _ _ z => z, fun _ _ z => z⟩
  · obtain ⟨p, o, e, _⟩ := z; cases e
  · obtain ⟨p, o, e, e0, e1, e2, s⟩ := z
    subst e
    exact ⟨_, Vw.new rm.cons s e1 e2 (fun r c n z => hn ds M r c n (z ▸ e0)), q o e0 p e1⟩
def w__law_cell : WS :=
    sSeq (sIf (wtB (wOp rLt (wVar 1) (wCB nLen (aCons (wVar 0) (aNil))))) (sRet (wOp rIx (wVar 0) (wVar 1))) (sNil))
    (sRet (wC (.int 0)))
def r__law_cell : WN := nSome (fun ds _ => ∃ (ns : List Int) (k : Int), ds = [.fl (ns.map .int), .int k] ∧ 0 ≤ k) fun _ _ d => ∃ n : Int, d = .int n
theorem law__law_cell : FnLaw 2 2 w__law_cell r__law_cell := law_some fun ds M cn ⟨ns, k, e, hk⟩ => by
  subst e
  refine ⟨rfl, ?_⟩
  intro R mk
  unfold w__law_cell rtE
  walk_at "mp"
  refine ⟨fun h => ?_, fun h => mk _ _ ⟨0, rfl⟩ Sub.refl⟩
  rw [List.length_map] at h
  obtain ⟨m, rfl⟩ : ∃ m : Nat, k = m := ⟨k.toNat, by omega⟩
  have hm : m < ns.length := by omega
  refine ⟨.int ns[m], atI_nat ?_, mk _ _ ⟨_, rfl⟩ Sub.refl⟩
  rw [List.getElem?_map, List.getElem?_eq_getElem hm]; rfl
def w__law_numbers : WS :=
    sSeq (sAsg (wLst (aNil)) (gN 2))
    (sSeq (sAsg (wVar 0) (gN 3))
    (sSeq (sFor (iR1 (aCons (wVar 1) (aNil))) (gN 4) (sIf (wtAnd (wtB (wOp rGe (wVar 0) (wOp rPow (wC (.int 10)) (wC (.int 18))))) (wtB (wOp rGt (wVar 3) (wC (.int 0))))) (sSeq (sDrop (wBM "list" mAppend (wVar 2) (aCons (wOp rMod (wCB nInt (aCons (wVar 3) (aNil))) (wC (.int 4099))) (aNil))))
    (sAsg (wOp rFdiv (wVar 3) (wC (.int 4099))) (gN 3))) (sSeq (sAsg (wOp rMod (wCB nInt (aCons (wOp rAdd (wOp rMulA (wVar 0) (wC (.int 69621))) (wOp rMulA (wOp rAdd (wVar 4) (wC (.int 1))) (wC (.int 48271)))) (aNil))) (wC (.int 2147483647))) (gN 5))
    (sSeq (sAsg (wOp rMod (wCB nInt (aCons (wOp rAdd (wOp rAdd (wOp rMulA (wVar 5) (wVar 5)) (wOp rMulA (wVar 5) (wC (.int 16807)))) (wOp rMulA (wVar 4) (wC (.int 7919)))) (aNil))) (wC (.int 2147483629))) (gN 5))
    (sSeq (sAsg (wOp rMod (wCB nInt (aCons (wOp rAdd (wOp rAdd (wOp rMulA (wVar 5) (wVar 5)) (wVar 0)) (wOp rMulA (wC (.int 17)) (wVar 4))) (aNil))) (wC (.int 2147483587))) (gN 5))
    (sDrop (wBM "list" mAppend (wVar 2) (aCons (wOp rMod (wOp rFdiv (wVar 5) (wC (.int 5))) (wC (.int 4099))) (aNil)))))))))
    (sRet (wVar 2))))
def r__law_numbers : WN := nNewS (fun ds _ => ∃ (c : Int) (k : Nat), ds = [.int c, .int (k : Int)] ∧ k ≤ 64) fun ds _ o => ∃ ns : List Int, o = .lst (ns.map .int) ∧ (∀ n ∈ ns, 0 ≤ n) ∧ ∀ c (k : Nat), ds = [.int c, .int (k : Int)] → ns.length = k
theorem law__law_numbers : FnLaw 6 2 w__law_numbers r__law_numbers := law_newS (fun ds M r c n ⟨ns, e, _⟩ => by cases e) fun ds M cn ⟨c, k, e, hk⟩ => by
  subst e
  refine ⟨rfl, ?_⟩
  intro R mkR
  unfold w__law_numbers rtE
  walk_at "mp"
  refine ⟨by decide, fun p hp => ⟨by omega, by omega, ?_⟩⟩
  refine loop_rng (lo := 0) (n := (k : Int).toNat) (fun i ρ M1 => ∃ (l : Int) (x4 x5 : Option D) (ns : List Int), ρ = [some (.int c), some (.int (k : Int)), some (.ref p), some (.int l), x4, x5] ∧ M1 p = some (.lst (ns.map .int)) ∧ ns.length = i ∧ (∀ n ∈ ns, 0 ≤ n) ∧ Sub M M1) ?step ?fin _ _ ⟨c, none, none, [], rfl, by rw [mupd_same]; rfl, rfl, by simp, Sub.new hp⟩
  case fin =>
    rintro ρ M1 ⟨l, x4, x5, ns, rfl, h1, h2, h3, h4⟩
    walk_at "mp"
    exact mkR p (.lst (ns.map .int)) _ ⟨ns, rfl, h3, fun c' k' e => by simp only [List.cons.injEq, D.int.injEq, and_true] at e; omega⟩ hp h1 h4
  case step =>
    rintro I mk i ρ M1 hi ⟨l, x4, x5, ns, rfl, h1, h2, h3, h4⟩
    have hki : i < k := by omega
    have szl := sizeLine_eq
    have fin : ∀ (v l' : Int) (x4 x5 : Option D), 0 ≤ v → I (i + 1) [some (.int c), some (.int (k : Int)), some (.ref p), some (.int l'), x4, x5] (mupd M1 p (.lst (ns.map .int ++ [.int v]))) := fun v l' x4 x5 hv =>
      mk _ _ _ ⟨l', x4, x5, ns ++ [v], rfl, by rw [mupd_same, List.map_append]; rfl, by simp [h2], fun n hn => by
        rcases List.mem_append.mp hn with hn | hn
        · exact h3 n hn
        · rw [List.mem_singleton.mp hn]; exact hv, h4.upd hp⟩
    have hlen : (ns.map D.int).length < sizeLine := by rw [List.length_map]; omega
    walk_at "mp"
    rw [show ((18 : Int).toNat) = 18 from rfl]
    refine ⟨⟨by decide, by decide, by decide⟩, ?_⟩
    simp only [ty_lst h1]
    have rest : CMul c 69621 → (∃ x, M1 p = some (.lst x) ∧ x.length < sizeLine ∧ True) := fun _ => ⟨_, h1, hlen, trivial⟩
    refine ⟨fun _ => ⟨fun _ => ⟨trivial, by decide, _, h1, hlen, cdiv_lit, fin _ _ _ _ (by omega)⟩, fun _ => ?_⟩, fun _ => ?_⟩
    · refine ⟨by walk_at "cm", by walk_at "cm", by decide, by walk_at "cm", by walk_at "cm", by walk_at "cm", by decide, by walk_at "cm", by walk_at "cm", by decide, trivial, cdiv_lit, by decide, _, h1, hlen, fin _ _ _ _ (by omega)⟩
    · refine ⟨by walk_at "cm", by walk_at "cm", by decide, by walk_at "cm", by walk_at "cm", by walk_at "cm", by decide, by walk_at "cm", by walk_at "cm", by decide, trivial, cdiv_lit, by decide, _, h1, hlen, fin _ _ _ _ (by omega)⟩
/-- the pool is made -/
def w__law_pool : WS :=
    sSeq (sAsg (wLst (aNil)) (gN 1))
    (sSeq (sFor (iR1 (aCons (wCB nMin2 (aCons (wC (.int 6)) (aCons (wCB nMax2 (aCons (wC (.int 1)) (aCons (wCB nLen (aCons (wVar 0) (aNil))) (aNil)))) (aNil)))) (aNil))) (gN 2) (sAsg (wOp rAdd (wVar 1) (wCB r__law_numbers (aCons (wOp rAdd (wCB r__law_cell (aCons (wVar 0) (aCons (wVar 2) (aNil)))) (wOp rMulA (wC (.int 11)) (wVar 2))) (aCons (wC (.int 24)) (aNil))))) (gN 1)))
    (sRet (wLst (aCons (wVar 1) (aCons (wLst (aCons (wC (.int 0)) (aNil))) (aNil))))))
def r__law_pool : WN := ⟨fun ds M Q => (∃ ns : List Int, ds = [.fl (ns.map .int)] ∧ ns.length ≤ 63) ∧ ∀ p r c, M p = none → M r = none → M c = none → r ≠ p → c ≠ p → r ≠ c → Q (.ref p) (mupd (mupd (mupd M r (.sub p)) c (.sub p)) p (.pool r c 0)), fun _ _ _ _ h q => ⟨q.1, fun p r c h1 h2 h3 h4 h5 h6 => h _ _ (q.2 p r c h1 h2 h3 h4 h5 h6)⟩⟩
theorem rel_refs2 {K : PySem.W.Frag} {H : Hp} {r c : Addr} {vs : List V} (h : RelDs K H [.ref r, .ref c] vs) : vs = [.ref r, .ref c] := by
  obtain ⟨v, u, rfl, a, b⟩ := rel2 h
  rw [rel_ref a, rel_ref b]
theorem Vw.pool {P : Program} {w : World} {K : PySem.W.Frag} {M M' : Mem} {p r c : Addr} {ns : List Int} (cn : Cons M) (s : Sub M M') (hp : M p = none) (hr : M r = none) (hc : M c = none) (n1 : r ≠ p) (n2 : c ≠ p) (n3 : r ≠ c) (e1 : M' p = some (.lst [.ref r, .ref c])) (e2 : M' r = some (.lst (ns.map .int))) (e3 : M' c = some (.lst [.int 0]))
    (h1 : ns ≠ [] ∧ ns.length ≤ 1000000) (h2 : ∀ n ∈ ns, 0 ≤ n) : Vw P w K M' (mupd (mupd (mupd M r (.sub p)) c (.sub p)) p (.pool r c 0)) := by
  have atR : mupd (mupd (mupd M r (.sub p)) c (.sub p)) p (.pool r c 0) r = some (.sub p) := by rw [mupd_ne n1, mupd_ne n3, mupd_same]
  have atC : mupd (mupd (mupd M r (.sub p)) c (.sub p)) p (.pool r c 0) c = some (.sub p) := by rw [mupd_ne n2, mupd_same]
  refine ⟨fun a h => ?_, fun H rm a o h => ?_⟩
  · rw [mupd_ne (fun z => by rw [z, e1] at h; cases h), mupd_ne (fun z => by rw [z, e3] at h; cases h), mupd_ne (fun z => by rw [z, e2] at h; cases h)]
    exact s.none h
  · by_cases ha : a = p
    · subst ha
      rw [mupd_same] at h; cases h
      obtain ⟨xs, hx, rx⟩ := rm _ _ e1
      obtain ⟨ys, hy, ry⟩ := rm _ _ e2
      obtain ⟨zs, hz, rz⟩ := rm _ _ e3
      rw [rel_refs2 rx] at hx
      rw [rel_ints ry] at hy
      rw [rel_ints (ns := [0]) rz] at hz
      exact ⟨ns, 0, hx, hy, hz, h1, h2, ⟨Int.le_refl _, Int.le_refl _⟩, n1, n2, n3, atR, atC⟩
    · rw [mupd_ne ha] at h
      by_cases hb : a = c
      · subst hb; rw [mupd_same] at h; cases h
        obtain ⟨zs, hz, rz⟩ := rm _ _ e3
        exact ⟨zs, hz⟩
      · rw [mupd_ne hb] at h
        by_cases hd : a = r
        · subst hd; rw [mupd_same] at h; cases h
          obtain ⟨zs, hz, rz⟩ := rm _ _ e2
          exact ⟨zs, hz⟩
        · rw [mupd_ne hd] at h
          have q := rm a o (s a o h)
          cases o with
          | pool r' c' n' =>
            obtain ⟨ns', t, e, er, ec, g1, g2, g3, g4, g5, g6, g7, g8⟩ := q
            obtain ⟨⟨k1, k2⟩, _⟩ := cn a r' c' n' h
            have keep : ∀ x q', M x = some (.sub q') → mupd (mupd (mupd M r (.sub p)) c (.sub p)) p (.pool r c 0) x = some (.sub q') := fun x q' hx => by
              rw [mupd_ne (fun z => by rw [z, hp] at hx; cases hx), mupd_ne (fun z => by rw [z, hc] at hx; cases hx), mupd_ne (fun z => by rw [z, hr] at hx; cases hx)]
              exact hx
            exact ⟨ns', t, e, er, ec, g1, g2, g3, g4, g5, g6, keep _ _ k1, keep _ _ k2⟩
          | lst ds => exact q
          | dic kvs => exact q
          | ins C fs => exact q
          | sub q' => exact q
          | rg lo hi => exact q
          | fd kvs t => exact q
theorem law__law_pool : FnLaw 3 1 w__law_pool r__law_pool := fun P w K H ds M Q rm ⟨⟨ns, e, hl⟩, q⟩ => by
  subst e
  refine ⟨rfl, M, rm, fun _ z => z, ?_⟩
  have cn := rm.cons
  have key : w__law_pool.f (rtE fun d M' => ∃ p r c zs, d = .ref p ∧ M p = none ∧ M r = none ∧ M c = none ∧ r ≠ p ∧ c ≠ p ∧ r ≠ c ∧ M' p = some (.lst [.ref r, .ref c]) ∧ M' r = some (.lst (List.map D.int zs)) ∧ M' c = some (.lst [.int 0]) ∧ (zs ≠ [] ∧ zs.length ≤ 1000000) ∧ (∀ n ∈ zs, 0 ≤ n) ∧ Sub M M') (startD 3 [.fl (ns.map .int)]) M := by
    obtain ⟨R, hR⟩ : ∃ R : D → Mem → Prop, R = fun d M' => ∃ p r c zs, d = .ref p ∧ M p = none ∧ M r = none ∧ M c = none ∧ r ≠ p ∧ c ≠ p ∧ r ≠ c ∧ M' p = some (.lst [.ref r, .ref c]) ∧ M' r = some (.lst (List.map D.int zs)) ∧ M' c = some (.lst [.int 0]) ∧ (zs ≠ [] ∧ zs.length ≤ 1000000) ∧ (∀ n ∈ zs, 0 ≤ n) ∧ Sub M M' := ⟨_, rfl⟩
    rw [← hR]
    unfold w__law_pool rtE
    walk_at "mp"
    refine ⟨by decide, fun p0 hp0 => ?_⟩
    rw [List.length_map]
    have many : ∃ k : Nat, (if (if ((ns.length : Nat) : Int) > 1 then ((ns.length : Nat) : Int) else 1) < 6 then (if ((ns.length : Nat) : Int) > 1 then ((ns.length : Nat) : Int) else 1) else (6 : Int)) = (k : Int) ∧ 1 ≤ k ∧ k ≤ 6 := by
      refine ⟨(if (if ((ns.length : Nat) : Int) > 1 then ((ns.length : Nat) : Int) else 1) < 6 then (if ((ns.length : Nat) : Int) > 1 then ((ns.length : Nat) : Int) else 1) else (6 : Int)).toNat, ?_, ?_, ?_⟩ <;> split <;> split <;> omega
    obtain ⟨k, ek, hk1, hk6⟩ := many
    rw [ek]
    refine ⟨by omega, by omega, ?_⟩
    refine loop_rng (lo := 0) (n := (k : Int).toNat) (fun i ρ M1 => ∃ (a : Addr) (x2 : Option D) (zs : List Int), ρ = [some (.fl (ns.map .int)), some (.ref a), x2] ∧ M a = none ∧ M1 a = some (.lst (zs.map .int)) ∧ zs.length = 24 * i ∧ (∀ n ∈ zs, 0 ≤ n) ∧ Sub M M1) ?step ?fin _ _ ⟨p0, none, [], rfl, hp0, by rw [mupd_same]; rfl, rfl, by simp, Sub.new hp0⟩
    case fin =>
      rintro ρ M1 ⟨a, x2, zs, rfl, ha, h1, h2, h3, h4⟩
      walk_at "mp"
      refine ⟨by decide, fun c hc => ⟨by decide, fun p hp => ?_⟩⟩
      rw [hR]
      have nca : a ≠ c := fun z => by rw [z, hc] at h1; cases h1
      have npc : c ≠ p := fun z => by rw [← z, mupd_same] at hp; cases hp
      have hp1 : M1 p = none := by rw [mupd_ne (Ne.symm npc)] at hp; exact hp
      have npa : a ≠ p := fun z => by rw [z, hp1] at h1; cases h1
      refine ⟨p, a, c, zs, rfl, h4.none hp1, ha, h4.none hc, npa, npc, nca, mupd_same, ?_, ?_, ⟨fun z => ?_, by omega⟩, h3, (h4.upd (h4.none hc)).upd (h4.none hp1)⟩
      · rw [mupd_ne npa, mupd_ne nca]; exact h1
      · rw [mupd_ne npc, mupd_same]
      · rw [z] at h2; simp at h2; omega
    case step =>
      rintro I mk i ρ M1 hi ⟨a, x2, zs, rfl, ha, h1, h2, h3, h4⟩
      have hki : i < k := by omega
      walk_at "mp"
      rw [r__law_cell, e_nSome]
      refine ⟨⟨ns, (i : Int), by simp, by omega⟩, ?_⟩
      rintro _ ⟨m, rfl⟩
      walk_at "mp"
      refine ⟨by walk_at "cm", ?_⟩
      rw [r__law_numbers, e_nNewS]
      refine ⟨⟨_, 24, rfl, by decide⟩, ?_⟩
      rintro _ ⟨ys, rfl, hy, hyl⟩ b hb
      walk_at "mp"
      have hyl := hyl _ 24 rfl
      have nab : a ≠ b := fun z => by rw [z, hb] at h1; cases h1
      refine ⟨zs.map .int, by rw [mupd_ne nab]; exact h1, ys.map .int, mupd_same, by rw [List.length_map, List.length_map, sizeLine_eq]; omega, fun x hx => ?_⟩
      have nbx : b ≠ x := fun z => by rw [← z, mupd_same] at hx; cases hx
      have hx1 : M1 x = none := by rw [mupd_ne (Ne.symm nbx)] at hx; exact hx
      refine mk _ _ _ ⟨x, _, zs ++ ys, rfl, h4.none hx1, by rw [mupd_same, List.map_append], by rw [List.length_append]; omega, fun n hn => ?_, (h4.upd (h4.none hb)).upd (h4.none hx1)⟩
      rcases List.mem_append.mp hn with hn | hn
      · exact h3 n hn
      · exact hy n hn
  refine w__law_pool.mono (rtE _) _ _ _ ?_ key
  refine ⟨fun _ M' z => ?_, fun d M' z => ?_, fun _ _ z => z, fun _ _ z => z⟩
  · obtain ⟨p, r, c, zs, e, _⟩ := z; cases e
  · obtain ⟨p, r, c, zs, rfl, h1, h2, h3, h4, h5, h6, h7, h8, h9, h10, h11, h12⟩ := z
    exact ⟨_, Vw.pool cn h12 h1 h2 h3 h4 h5 h6 h7 h8 h9 h10 h11, q p r c h1 h2 h3 h4 h5 h6⟩
/-- the pool is asked -/
def w__law_draw : WS :=
    sSeq (sAsg (wOp rIx (wOp rIx (wVar 0) (wC (.int 1))) (wC (.int 0))) (gN 2))
    (sSeq (sAsg (wOp rAdd (wVar 2) (wC (.int 1))) (gSubD (wOp rIx (wVar 0) (wC (.int 1))) (wC (.int 0))))
    (sSeq (sAsg (wOp rFdiv (wVar 2) (wCB nLen (aCons (wOp rIx (wVar 0) (wC (.int 0))) (aNil)))) (gN 3))
    (sRet (wOp rMod (wCB nInt (aCons (wOp rAdd (wOp rAdd (wOp rIx (wOp rIx (wVar 0) (wC (.int 0))) (wOp rMod (wVar 2) (wCB nLen (aCons (wOp rIx (wVar 0) (wC (.int 0))) (aNil))))) (wOp rMulA (wVar 3) (wC (.int 1013)))) (wOp rMulA (wOp rMulA (wVar 3) (wVar 2)) (wC (.int 7)))) (aNil))) (wVar 1)))))
def r__law_draw : WN := nDr 1 (fun ds _ => ∃ (p : Addr) (m : Int), ds = [.ref p, .int m] ∧ 0 < m) fun ds _ d => ∃ (p : Addr) (m i : Int), ds = [.ref p, .int m] ∧ d = .int i ∧ 0 ≤ i ∧ i < m
theorem draw_at {p r c : Addr} {n : Nat} {m : Int} {M : Mem} {Q : D → Mem → Prop} (h : M p = some (.pool r c n)) : r__law_draw.f [.ref p, .int m] M Q = (n + 1 ≤ 1000000000 ∧ 0 < m ∧ ∀ i : Int, 0 ≤ i → i < m → Q (.int i) (mupd M p (.pool r c (n + 1)))) := by
  rw [r__law_draw, dr_pool h]
  refine propext ⟨fun ⟨h1, ⟨p', m', e, h2⟩, h3⟩ => ?_, fun ⟨h1, h2, h3⟩ => ⟨h1, ⟨p, m, rfl, h2⟩, fun d hd => ?_⟩⟩
  · simp only [List.cons.injEq, D.ref.injEq, D.int.injEq, and_true] at e
    obtain ⟨rfl, rfl⟩ := e
    exact ⟨h1, h2, fun i hi1 hi2 => h3 _ ⟨p, m, i, rfl, rfl, hi1, hi2⟩⟩
  · obtain ⟨p', m', i, e, rfl, hi1, hi2⟩ := hd
    simp only [List.cons.injEq, D.ref.injEq, D.int.injEq, and_true] at e
    obtain ⟨rfl, rfl⟩ := e
    exact h3 i hi1 hi2
theorem atI_some {α : Type} {xs : List α} {i : Int} (h0 : 0 ≤ i) (h1 : i < xs.length) : ∃ x, atI xs i = some x ∧ x ∈ xs := by
  obtain ⟨m, rfl⟩ : ∃ m : Nat, i = m := ⟨i.toNat, by omega⟩
  have hm : m < xs.length := by omega
  exact ⟨xs[m], atI_nat (List.getElem?_eq_getElem hm), List.getElem_mem hm⟩
theorem law__law_draw : FnLaw 4 2 w__law_draw r__law_draw := fun P w K H ds M Q rm ⟨p, r, c, n, rest, e1, e2, e3, ⟨p', m, e4, hm⟩, q⟩ => by
  subst e1
  simp only [List.cons.injEq, D.ref.injEq] at e4
  obtain ⟨rfl, rfl⟩ := e4
  obtain ⟨ns, t, hp, hr, hc, g1, g2, g3, n1, n2, n3, s1, s2⟩ := rm p _ e2
  have q : ∀ i : Int, 0 ≤ i → i < m → Q (.int i) (mupd M p (.pool r c (n + 1))) := fun i h1 h2 => q _ ⟨p, m, i, rfl, rfl, h1, h2⟩
  obtain ⟨M0, eM⟩ : ∃ M0, M0 = mupd (mupd (mupd M p (.lst [.ref r, .ref c])) r (.lst (ns.map .int))) c (.lst [.int t]) := ⟨_, rfl⟩
  have oth : ∀ a, a ≠ p → a ≠ r → a ≠ c → M0 a = M a := fun a h1 h2 h3 => by rw [eM, mupd_ne h3, mupd_ne h2, mupd_ne h1]
  have atP : M0 p = some (.lst [.ref r, .ref c]) := by rw [eM, mupd_ne (Ne.symm n2), mupd_ne (Ne.symm n1), mupd_same]
  have atR : M0 r = some (.lst (ns.map .int)) := by rw [eM, mupd_ne n3, mupd_same]
  have atC : M0 c = some (.lst [.int t]) := by rw [eM, mupd_same]
  have cn := rm.cons
  have rints : ∀ zs : List Int, RelDs K H (zs.map D.int) (zs.map V.int) := fun zs => by
    induction zs with
    | nil => exact .nil
    | cons z zs ih => exact .cons (.int z) ih
  have rm0 : RelM P w K H M0 := fun a o h => by
    by_cases h1 : a = p
    · subst h1; rw [atP] at h; cases h; exact ⟨_, hp, .cons (.ref r) (.cons (.ref c) .nil)⟩
    · by_cases h2 : a = r
      · subst h2; rw [atR] at h; cases h; exact ⟨_, hr, rints ns⟩
      · by_cases h3 : a = c
        · subst h3; rw [atC] at h; cases h; exact ⟨_, hc, .cons (.int t) .nil⟩
        · rw [oth a h1 h2 h3] at h
          have z := rm a o h
          cases o with
          | pool r' c' n' =>
            obtain ⟨ns', t', e, er, ec, k1, k2, k3, k4, k5, k6, k7, k8⟩ := z
            have keep : ∀ x, M x = some (.sub a) → M0 x = some (.sub a) := fun x hx => by
              rw [oth x (fun y => by rw [y, e2] at hx; cases hx) (fun y => by rw [y, s1] at hx; cases hx; exact h1 rfl) (fun y => by rw [y, s2] at hx; cases hx; exact h1 rfl)]
              exact hx
            exact ⟨ns', t', e, er, ec, k1, k2, k3, k4, k5, k6, keep _ k7, keep _ k8⟩
          | lst ds => exact z
          | dic kvs => exact z
          | ins C fs => exact z
          | sub q' => exact z
          | rg lo hi => exact z
          | fd kvs t => exact z
  refine ⟨rfl, M0, rm0, fun a h => ?_, ?_⟩
  · by_cases h1 : a = p
    · subst h1; rw [e2] at h; cases h
    · by_cases h2 : a = r
      · subst h2; rw [s1] at h; cases h
      · by_cases h3 : a = c
        · subst h3; rw [s2] at h; cases h
        · rw [oth a h1 h2 h3]; exact h
  have key : w__law_draw.f (rtE fun d M' => ∃ i, d = .int i ∧ 0 ≤ i ∧ i < m ∧ M' = mupd M0 c (.lst [.int (t + 1)])) (startD 4 [.ref p, .int m]) M0 := by
    obtain ⟨R, hR⟩ : ∃ R : D → Mem → Prop, R = fun d M' => ∃ i, d = .int i ∧ 0 ≤ i ∧ i < m ∧ M' = mupd M0 c (.lst [.int (t + 1)]) := ⟨_, rfl⟩
    rw [← hR]
    unfold w__law_draw rtE
    walk_at "mp"
    repeat (first | simp only [ix_lst atP, ix_lst atC, put_lst atC] | walk_at "mp1")
    refine ⟨0, by decide, ?_⟩
    have atP' : mupd M0 c (.lst [.int (t + 1)]) p = some (.lst [.ref r, .ref c]) := by rw [mupd_ne (Ne.symm n2)]; exact atP
    have atR' : mupd M0 c (.lst [.int (t + 1)]) r = some (.lst (ns.map .int)) := by rw [mupd_ne n3]; exact atR
    walk_at "mp"
    repeat (first | simp only [ix_lst atP', len_lst atR', ix_lst atR', List.length_map] | walk_at "mp1")
    have hpos : 0 < ns.length := List.length_pos_iff.mpr g1.1
    have hmod : 0 ≤ t % (ns.length : Int) ∧ t % (ns.length : Int) < ns.length := ⟨Int.emod_nonneg _ (by omega), Int.emod_lt_of_pos _ (by omega)⟩
    obtain ⟨x, hx, hxm⟩ := atI_some (xs := ns.map D.int) hmod.1 (by rw [List.length_map]; exact hmod.2)
    obtain ⟨v, _, rfl⟩ := List.mem_map.mp hxm
    have hdiv : 0 ≤ t / (ns.length : Int) ∧ t / (ns.length : Int) ≤ t := ⟨Int.ediv_nonneg g3.1 (by omega), Int.ediv_le_self _ g3.1⟩
    refine ⟨⟨by omega, by omega⟩, by omega, _, hx, ?_⟩
    walk_at "mp"
    refine ⟨by walk_at "cm", by walk_at "cm", by walk_at "cm", hm, ?_⟩
    rw [hR]
    exact ⟨_, rfl, Int.emod_nonneg _ (by omega), Int.emod_lt_of_pos _ hm, rfl⟩
  refine w__law_draw.mono (rtE _) _ _ _ ?_ key
  have vw : Vw P w K (mupd M0 c (.lst [.int (t + 1)])) (mupd M p (.pool r c (n + 1))) := by
    have cP : mupd M0 c (.lst [.int (t + 1)]) p = some (.lst [.ref r, .ref c]) := by rw [mupd_ne (Ne.symm n2)]; exact atP
    have cR : mupd M0 c (.lst [.int (t + 1)]) r = some (.lst (ns.map .int)) := by rw [mupd_ne n3]; exact atR
    have cC : mupd M0 c (.lst [.int (t + 1)]) c = some (.lst [.int (t + 1)]) := mupd_same
    have cO : ∀ a, a ≠ p → a ≠ r → a ≠ c → mupd M0 c (.lst [.int (t + 1)]) a = M a := fun a h1 h2 h3 => by rw [mupd_ne h3]; exact oth a h1 h2 h3
    have cn' := cn.ask (m := n + 1) e2
    refine ⟨fun a h => ?_, fun H' rm' a o h => ?_⟩
    · have h1 : a ≠ p := fun z => by rw [z, cP] at h; cases h
      have h2 : a ≠ r := fun z => by rw [z, cR] at h; cases h
      have h3 : a ≠ c := fun z => by rw [z, cC] at h; cases h
      rw [mupd_ne h1, ← cO a h1 h2 h3]; exact h
    · by_cases h1 : a = p
      · subst h1; rw [mupd_same] at h; cases h
        obtain ⟨xs, hx, rx⟩ := rm' _ _ cP
        obtain ⟨ys, hy, ry⟩ := rm' _ _ cR
        obtain ⟨zs, hz, rz⟩ := rm' _ _ cC
        rw [rel_refs2 rx] at hx
        rw [rel_ints ry] at hy
        rw [rel_ints (ns := [t + 1]) rz] at hz
        exact ⟨ns, t + 1, hx, hy, hz, g1, g2, ⟨by omega, by omega⟩, n1, n2, n3, by rw [mupd_ne n1]; exact s1, by rw [mupd_ne n2]; exact s2⟩
      · rw [mupd_ne h1] at h
        by_cases h2 : a = r
        · subst h2; rw [s1] at h; cases h
          obtain ⟨ys, hy, ry⟩ := rm' _ _ cR
          exact ⟨ys, hy⟩
        · by_cases h3 : a = c
          · subst h3; rw [s2] at h; cases h
            obtain ⟨zs, hz, rz⟩ := rm' _ _ cC
            exact ⟨zs, hz⟩
          · have z := rm' a o (by rw [cO a h1 h2 h3]; exact h)
            cases o with
            | pool r' c' n' =>
              obtain ⟨ns', t', e, er, ec, k1, k2, k3, k4, k5, k6, k7, k8⟩ := z
              have w1 := cn' a r' c' n' (by rw [mupd_ne h1]; exact h)
              exact ⟨ns', t', e, er, ec, k1, k2, k3, k4, k5, k6, w1.1.1, w1.1.2⟩
            | lst ds => exact z
            | dic kvs => exact z
            | ins C fs => exact z
            | sub q' => exact z
            | rg lo hi => exact z
            | fd kvs t => exact z
  refine ⟨fun _ M' z => ?_, fun d M' z => ?_, fun _ _ z => z, fun _ _ z => z⟩
  · obtain ⟨i, e, _⟩ := z; cases e
  · obtain ⟨i, rfl, h1, h2, rfl⟩ := z
    exact ⟨_, vw, q i h1 h2⟩
/-- what kind a datum is of -/
def w__law_kind : WS :=
    sSeq (sIf (wtB (wCB nIsi (aCons (wVar 0) (aCons (wC (.ty "bool")) (aNil))))) (sRet (wC (.int 1))) (sNil))
    (sSeq (sIf (wtB (wCB nIsi (aCons (wVar 0) (aCons (wC (.ty "int")) (aNil))))) (sRet (wC (.int 2))) (sNil))
    (sSeq (sIf (wtB (wCB nIsi (aCons (wVar 0) (aCons (wC (.ty "str")) (aNil))))) (sRet (wC (.int 3))) (sNil))
    (sSeq (sIf (wtB (wCB nIsi (aCons (wVar 0) (aCons (wC (.ty "tuple")) (aNil))))) (sRet (wC (.int 4))) (sNil))
    (sSeq (sIf (wtB (wCB nIsi (aCons (wVar 0) (aCons (wC (.ty "list")) (aNil))))) (sRet (wC (.int 5))) (sNil))
    (sSeq (sIf (wtB (wOp rIs (wVar 0) (wC .non))) (sRet (wC (.int 6))) (sNil))
    (sRet (wC (.int 0))))))))
def kindN (t : String) : Int := if t = "bool" then 1 else if t = "int" then 2 else if t = "str" then 3 else if t = "tuple" then 4 else if t = "list" then 5 else if t = "NoneType" then 6 else 0
def kindD (d : D) (M : Mem) : Int := match tyName d M with
  | some t => kindN t
  | none => 0
def hasTy (d : D) (M : Mem) : Prop := ∃ t, tyName d M = some t ∧ (t = "bool" ∨ t = "int" ∨ t = "str" ∨ t = "tuple" ∨ t = "list" ∨ t = "NoneType")
def r__law_kind : WN := nPure (fun ds M => ∃ d, ds = [d] ∧ hasTy d M) fun ds M => .int (match ds with | [d] => kindD d M | _ => 0)
theorem kind_at {d : D} {M : Mem} {Q : D → Mem → Prop} : r__law_kind.f [d] M Q = (hasTy d M ∧ Q (.int (kindD d M)) M) := propext ⟨fun ⟨⟨d', e, h⟩, q⟩ => by cases e; exact ⟨h, q⟩, fun ⟨h, q⟩ => ⟨⟨d, rfl, h⟩, q⟩⟩
theorem isNon_ty {d : D} {M : Mem} {t : String} (h : tyName d M = some t) (n : t ≠ "NoneType") : d.isNon = false := by
  cases d <;> first | rfl | (simp only [tyName, Option.some.injEq] at h; exact absurd h.symm n)
theorem isNon_ty' {d : D} {M : Mem} (h : tyName d M = some "NoneType") : d.isNon = true := by
  cases d <;> simp [tyName] at h <;> first | rfl | (split at h <;> simp at h)
theorem law__law_kind : FnLaw 1 1 w__law_kind r__law_kind := law_pure fun ds M cn ⟨d, e, t, ht, hh⟩ => by
  subst e
  refine ⟨rfl, ?_⟩
  have kd : kindD d M = kindN t := by simp only [kindD, ht]
  intro R mk
  unfold w__law_kind rtE
  have mk : ∀ i, kindD d M = i → R (.int i) M := fun i e => by subst e; exact mk _ Sub.refl
  walk_at "mp"
  simp only [kd, ht, Option.some.injEq, exists_eq_left']
  rcases hh with rfl | rfl | rfl | rfl | rfl | rfl <;> walk_at "mp" <;> first
    | exact mk _ kd
    | (simp only [isNon_ty' ht]; walk_at "mp1"; exact mk _ kd)
def w__law_int : WS :=
    sRet (wAnd (wOp rEq (wCB r__law_kind (aCons (wVar 0) (aNil))) (wC (.int 2))) (wChain rLe rLe (wVar 1) (wVar 0) (wVar 2)))
def r__law_int : WN := nPure (fun ds M => ∃ (x l h : Int), ds = [.int x, .int l, .int h]) fun ds M => match ds with | [.int x, .int l, .int h] => .bl (decide (l ≤ x) && decide (x ≤ h)) | _ => .non
theorem int_at {x l h : Int} {M : Mem} {Q : D → Mem → Prop} : r__law_int.f [.int x, .int l, .int h] M Q = Q (.bl (decide (l ≤ x) && decide (x ≤ h))) M := propext ⟨fun ⟨_, q⟩ => q, fun q => ⟨⟨x, l, h, rfl⟩, q⟩⟩
theorem law__law_int : FnLaw 3 3 w__law_int r__law_int := law_pure fun ds M cn ⟨x, l, h, e⟩ => by
  subst e
  refine ⟨rfl, ?_⟩
  intro R mk
  unfold w__law_int rtE
  walk_at "mp"
  simp only [kind_at, kindD, tn_int, kindN]
  refine ⟨⟨_, rfl, .inr (.inl rfl)⟩, ?_⟩
  walk_at "mp"
  have mk : ∀ c, (decide (l ≤ x) && decide (x ≤ h)) = c → R (.bl c) M := fun c e => by subst e; exact mk _ Sub.refl
  exact ⟨fun _ => ⟨fun h1 => mk _ (by simp [h1]), fun h1 => mk _ (by simp [h1])⟩, fun z => absurd rfl z⟩
/-- strictly ascending -/
def w__law_up : WS :=
    sSeq (sFor (iR2 (aCons (wC (.int 1)) (aCons (wCB nLen (aCons (wVar 0) (aNil))) (aNil)))) (gN 1) (sIf (wtNot (wtB (wOp rLt (wOp rIx (wVar 0) (wOp rSub (wVar 1) (wC (.int 1)))) (wOp rIx (wVar 0) (wVar 1))))) (sRet (wC (.bl false))) (sNil)))
    (sRet (wC (.bl true)))
def okLt (x y : D) : Prop := (∃ i j, x = .tup i ∧ y = .tup j) ∧ PySem.W.alike x.py y.py = true ∧ min x.dep y.dep ≤ 60 ∧ x.pl ∧ y.pl
def upB : List D → Bool
  | [] => true
  | [_] => true
  | x :: y :: r => ltD x y && upB (y :: r)
theorem upB_iff : ∀ xs : List D, upB xs = true ↔ ∀ (j : Nat) (x y : D), xs[j]? = some x → xs[j + 1]? = some y → ltD x y = true
  | [] => by simp [upB]
  | [x] => by
    simp only [upB, true_iff]
    intro j a b h1 h2
    rw [List.getElem?_eq_none (by simp)] at h2; cases h2
  | x :: y :: r => by
    rw [upB, Bool.and_eq_true, upB_iff (y :: r)]
    constructor
    · rintro ⟨h1, h2⟩ j a b e1 e2
      cases j with
      | zero => simp at e1 e2; rw [← e1, ← e2]; exact h1
      | succ j => exact h2 j a b (by simpa using e1) (by simpa using e2)
    · intro h
      exact ⟨h 0 x y rfl rfl, fun j a b e1 e2 => h (j + 1) a b (by simpa using e1) (by simpa using e2)⟩
def upG (ds : List D) (M : Mem) : D := match ds with | [.ref a] => (match M a with | some (.lst xs) => .bl (upB xs) | _ => .non) | _ => .non
theorem upG_eq {a : Addr} {xs : List D} {M : Mem} (h : M a = some (.lst xs)) : upG [.ref a] M = .bl (upB xs) := by simp only [upG, h]
def r__law_up : WN := nPure (fun ds M => ∃ (a : Addr) (xs : List D), ds = [.ref a] ∧ M a = some (.lst xs) ∧ xs.length ≤ 1000000 ∧ ∀ x ∈ xs, ∀ y ∈ xs, okLt x y) upG
theorem up_at {a : Addr} {xs : List D} {M : Mem} {Q : D → Mem → Prop} (h : M a = some (.lst xs)) (h1 : xs.length ≤ 1000000) (h2 : ∀ x ∈ xs, ∀ y ∈ xs, okLt x y) : r__law_up.f [.ref a] M Q = Q (.bl (upB xs)) M := by
  rw [r__law_up, e_nPure, upG_eq h]
  exact propext ⟨fun ⟨_, q⟩ => q, fun q => ⟨⟨a, xs, rfl, h, h1, h2⟩, q⟩⟩
theorem law__law_up : FnLaw 2 1 w__law_up r__law_up := law_pure fun ds M cn ⟨a, xs, e, ha, hl, hok⟩ => by
  subst e
  refine ⟨rfl, ?_⟩
  rw [upG_eq ha]
  intro R mkR
  have mkR : ∀ c, upB xs = c → R (.bl c) M := fun c e => by subst e; exact mkR _ Sub.refl
  unfold w__law_up rtE
  walk_at "mp"
  simp only [len_lst ha]
  refine ⟨⟨by decide, by decide, by omega, by omega⟩, ?_⟩
  refine loop_rng (lo := 1) (n := (((xs.length : Nat) : Int) - 1).toNat) (fun i ρ M1 => ∃ x1, ρ = [some (.ref a), x1] ∧ M1 = M ∧ ∀ (j : Nat) (x y : D), j < i → xs[j]? = some x → xs[j + 1]? = some y → ltD x y = true) ?step ?fin _ _ ⟨none, rfl, rfl, fun j x y h => absurd h (by omega)⟩
  case fin =>
    rintro ρ M1 ⟨x1, rfl, rfl, h⟩
    walk_at "mp"
    refine mkR _ ((upB_iff xs).mpr fun j x y e1 e2 => h j x y ?_ e1 e2)
    have := (List.getElem?_eq_some_iff.mp e2).1
    omega
  case step =>
    rintro I mk i ρ M1 hi ⟨x1, rfl, rfl, h⟩
    have h0 : i + 1 < xs.length := by omega
    walk_at "mp"
    simp only [ix_lst ha]
    have e1 : atI xs (1 + (i : Int) - 1) = some xs[i] := by
      rw [show (1 + (i : Int) - 1) = ((i : Nat) : Int) by omega]
      exact atI_nat (List.getElem?_eq_getElem (by omega))
    have e2 : atI xs (1 + (i : Int)) = some xs[i + 1] := by
      rw [show (1 + (i : Int)) = ((i + 1 : Nat) : Int) by omega]
      exact atI_nat (List.getElem?_eq_getElem h0)
    rw [e1]
    refine ⟨_, rfl, ?_⟩
    rw [e2]
    refine ⟨_, rfl, ?_⟩
    have ok := hok xs[i] (List.getElem_mem _) xs[i + 1] (List.getElem_mem _)
    obtain ⟨⟨u, v, eu, ev⟩, k1, k2, k3, k4⟩ := ok
    have e3 : xs[i]? = some (.tup u) := by rw [List.getElem?_eq_getElem (by omega), eu]
    have e4 : xs[i + 1]? = some (.tup v) := by rw [List.getElem?_eq_getElem h0, ev]
    rw [eu, ev] at k1 k2
    rw [eu] at k3
    rw [ev] at k4
    rw [eu, ev]
    walk_at "mp"
    refine ⟨k1, by simp [D.py], k2, k3, k4, fun hlt => ?_, fun hlt => mk _ _ _ ⟨_, rfl, rfl, fun j x y hj g1 g2 => ?_⟩⟩
    · have : ¬ upB xs = true := fun z => by
        have := (upB_iff xs).mp z i _ _ e3 e4
        rw [this] at hlt; exact absurd hlt (by decide)
      exact mkR _ (Bool.eq_false_iff.mpr this)
    · by_cases hji : j < i
      · exact h j x y hji g1 g2
      · have : j = i := by omega
        subst this
        rw [e3] at g1; cases g1
        rw [e4] at g2; cases g2
        simpa using hlt
def w__law_gcd : WS :=
    sSeq (sAsg (wCB nAbs (aCons (wVar 0) (aNil))) (gN 0))
    (sSeq (sFor (iR1 (aCons (wC (.int 20000)) (aNil))) (gN 2) (sSeq (sIf (wtB (wOp rEq (wVar 1) (wC (.int 0)))) (sRet (wVar 0)) (sNil))
    (sSeq (sAsg (wOp rMod (wCB nInt (aCons (wVar 0) (aNil))) (wVar 1)) (gN 3))
    (sSeq (sAsg (wVar 1) (gN 0))
    (sAsg (wVar 3) (gN 1))))))
    (sRet (wVar 0)))
def r__law_gcd : WN := nPure (fun ds _ => ∃ (a b : Int), ds = [.int a, .int b] ∧ 0 ≤ a ∧ 0 ≤ b ∧ b < 20000) fun ds _ => match ds with | [.int a, .int b] => .int (Int.gcd a b) | _ => .non
theorem gcd_at {a b : Int} {M : Mem} {Q : D → Mem → Prop} : r__law_gcd.f [.int a, .int b] M Q = ((0 ≤ a ∧ 0 ≤ b ∧ b < 20000) ∧ Q (.int (Int.gcd a b)) M) := propext ⟨fun ⟨⟨x, y, e, h⟩, q⟩ => by cases e; exact ⟨h, q⟩, fun ⟨h, q⟩ => ⟨⟨a, b, rfl, h⟩, q⟩⟩
theorem gcd_step {x y : Int} (hx : 0 ≤ x) (hy : 0 < y) : Int.gcd y (x % y) = Int.gcd x y := by
  obtain ⟨a, rfl⟩ : ∃ a : Nat, x = a := ⟨x.toNat, by omega⟩
  obtain ⟨b, rfl⟩ : ∃ b : Nat, y = b := ⟨y.toNat, by omega⟩
  rw [← Int.natCast_emod]
  show Nat.gcd b (a % b) = Nat.gcd a b
  rw [Nat.gcd_comm b, ← Nat.gcd_rec, Nat.gcd_comm]
theorem law__law_gcd : FnLaw 4 2 w__law_gcd r__law_gcd := law_pure fun ds M cn ⟨a, b, e, ha, hb, hb2⟩ => by
  subst e
  refine ⟨rfl, ?_⟩
  intro R mkR
  have mkR : ∀ c, (Int.gcd a b : Int) = c → R (.int c) M := fun c e => by subst e; exact mkR _ Sub.refl
  unfold w__law_gcd rtE
  walk_at "mp"
  refine ⟨by decide, by decide, ?_⟩
  rw [if_neg (by omega)]
  refine loop_rng (lo := 0) (n := (20000 : Int).toNat) (fun i ρ M1 => ∃ (x y : Int) (x2 x3 : Option D), ρ = [some (.int x), some (.int y), x2, x3] ∧ M1 = M ∧ 0 ≤ x ∧ 0 ≤ y ∧ Int.gcd x y = Int.gcd a b ∧ y + i ≤ b) ?step ?fin _ _ ⟨a, b, none, none, rfl, rfl, ha, hb, rfl, by omega⟩
  case fin =>
    rintro ρ M1 ⟨x, y, x2, x3, rfl, rfl, h1, h2, h3, h4⟩
    exact absurd h4 (by have : ((20000 : Int).toNat) = 20000 := rfl; rw [this]; omega)
  case step =>
    rintro I mk i ρ M1 hi ⟨x, y, x2, x3, rfl, rfl, h1, h2, h3, h4⟩
    walk_at "mp"
    refine ⟨fun hy => ?_, fun hy => ?_⟩
    · subst hy
      refine mkR _ ?_
      rw [← h3, Int.gcd_zero_right]
      omega
    · have hy' : 0 < y := by omega
      have hm : 0 ≤ x % y ∧ x % y < y := ⟨Int.emod_nonneg _ (by omega), Int.emod_lt_of_pos _ hy'⟩
      exact ⟨hy', mk _ _ _ ⟨y, x % y, _, _, rfl, rfl, h2, hm.1, by rw [gcd_step h1 hy', h3], by omega⟩⟩
def w__law_moment : WS :=
    sSeq (sAsg (wCB nMax2 (aCons (wC (.int 1)) (aCons (wCB r__law_gcd (aCons (wVar 0) (aCons (wVar 1) (aNil)))) (aNil)))) (gN 2))
    (sRet (wTup (aCons (wOp rFdiv (wVar 0) (wVar 2)) (aCons (wOp rFdiv (wVar 1) (wVar 2)) (aNil)))))
/-- p / q in least terms -/
def momF (p q : Int) : Int × Int := (p / (Int.gcd p q : Int), q / (Int.gcd p q : Int))
def r__law_moment : WN := nPure (fun ds _ => ∃ (p q : Int), ds = [.int p, .int q] ∧ 0 ≤ p ∧ 0 < q ∧ q < 20000) fun ds _ => match ds with | [.int p, .int q] => ipD (momF p q) | _ => .non
theorem mom_at {p q : Int} {M : Mem} {Q : D → Mem → Prop} : r__law_moment.f [.int p, .int q] M Q = ((0 ≤ p ∧ 0 < q ∧ q < 20000) ∧ Q (ipD (momF p q)) M) := propext ⟨fun ⟨⟨x, y, e, h⟩, z⟩ => by cases e; exact ⟨h, z⟩, fun ⟨h, z⟩ => ⟨⟨p, q, rfl, h⟩, z⟩⟩
theorem law__law_moment : FnLaw 3 2 w__law_moment r__law_moment := law_pure fun ds M cn ⟨p, q, e, hp, hq, hq2⟩ => by
  subst e
  refine ⟨rfl, ?_⟩
  have g1 : 0 < Int.gcd p q := Int.gcd_pos_of_ne_zero_right _ (by omega)
  have g2 : (Int.gcd p q : Int) ≤ q := Int.le_of_dvd hq (Int.gcd_dvd_right ..)
  have e1 : (if (Int.gcd p q : Int) > 1 then (Int.gcd p q : Int) else 1) = (Int.gcd p q : Int) := by split <;> omega
  intro R mk
  unfold w__law_moment rtE
  walk_at "mp"
  simp only [gcd_at]
  walk_at "mp"
  rw [e1]
  exact ⟨⟨hp, by omega, hq2⟩, ⟨by omega, by omega⟩, ⟨by omega, by omega⟩, by decide, mk _ Sub.refl⟩
def w__law_fraction : WS :=
    sSeq (sAsg (wOp rAdd (wC (.int 1)) (wCB r__law_draw (aCons (wVar 0) (aCons (wC (.int 4)) (aNil))))) (gN 2))
    (sRet (wCB r__law_moment (aCons (wCB r__law_draw (aCons (wVar 0) (aCons (wOp rAdd (wOp rMulA (wVar 1) (wVar 2)) (wC (.int 1))) (aNil)))) (aCons (wVar 2) (aNil)))))
def r__law_fraction : WN := nDr 2 (fun ds _ => ∃ (p : Addr) (m : Int), ds = [.ref p, .int m] ∧ 0 ≤ m ∧ m ≤ 1000) fun ds _ d => ∃ (p : Addr) (m u v : Int), ds = [.ref p, .int m] ∧ d = ipD (momF u v) ∧ 0 ≤ u ∧ u ≤ m * v ∧ 1 ≤ v ∧ v ≤ 4
theorem frac_at {p r c : Addr} {n : Nat} {m : Int} {M : Mem} {Q : D → Mem → Prop} (h : M p = some (.pool r c n)) : r__law_fraction.f [.ref p, .int m] M Q = (n + 2 ≤ 1000000000 ∧ (0 ≤ m ∧ m ≤ 1000) ∧ ∀ u v : Int, 0 ≤ u → u ≤ m * v → 1 ≤ v → v ≤ 4 → Q (ipD (momF u v)) (mupd M p (.pool r c (n + 2)))) := by
  rw [r__law_fraction, dr_pool h]
  refine propext ⟨fun ⟨h1, ⟨p', m', e, h2⟩, h3⟩ => ?_, fun ⟨h1, h2, h3⟩ => ⟨h1, ⟨p, m, rfl, h2⟩, fun d hd => ?_⟩⟩
  · simp only [List.cons.injEq, D.ref.injEq, D.int.injEq, and_true] at e
    obtain ⟨rfl, rfl⟩ := e
    exact ⟨h1, h2, fun u v a1 a2 a3 a4 => h3 _ ⟨p, m, u, v, rfl, rfl, a1, a2, a3, a4⟩⟩
  · obtain ⟨p', m', u, v, e, rfl, a1, a2, a3, a4⟩ := hd
    simp only [List.cons.injEq, D.ref.injEq, D.int.injEq, and_true] at e
    obtain ⟨rfl, rfl⟩ := e
    exact h3 u v a1 a2 a3 a4
theorem law__law_fraction : FnLaw 3 2 w__law_fraction r__law_fraction := law_dr fun p r c m rest M cn hp hb ⟨p', most, e, h1, h2⟩ => by
  simp only [List.cons.injEq, D.ref.injEq] at e
  obtain ⟨rfl, rfl⟩ := e
  refine ⟨rfl, ?_⟩
  intro R mk
  unfold w__law_fraction rtE
  walk_at "mp"
  simp only [draw_at hp]
  refine ⟨by omega, by decide, fun i hi0 hi4 => ?_⟩
  walk_at "mp"
  have hp1 : mupd M p (.pool r c (m + 1)) p = some (.pool r c (m + 1)) := mupd_same
  have hnn : 0 ≤ most * (1 + i) := Int.mul_nonneg h1 (by omega)
  refine ⟨by walk_at "cm", ?_⟩
  simp only [draw_at hp1]
  refine ⟨by omega, by omega, fun u hu0 hu => ?_⟩
  simp only [mom_at]
  exact ⟨⟨hu0, by omega, by omega⟩, mk _ _ ⟨p, most, u, 1 + i, rfl, rfl, hu0, by omega, by omega, by omega⟩ (((DrS.refl hp).ask (k := 1) hp).ask (k := 1) hp1)⟩
end MP

namespace MP
open PySem PySem.Spec PyProof.Rows L2

/-! ### dict comprehensions, keys of any plain kind (ints, texts, tuples) -/
theorem alone {P : Program} {w : World} {K : PySem.W.Frag} {H : Hp} {D : Addr} {acc : List (MP.D × MP.D)} (ro : RelO P w K H (fun _ => none) D (.dic acc)) : RelM P w K H (mupd (fun _ => none) D (.dic acc)) := fun a o e => by
  unfold mupd at e
  split at e
  · next h => cases e; subst h; exact ro
  · cases e
theorem dic_same {P : Program} {w : World} {K : PySem.W.Frag} {H H' : Hp} {D : Addr} {acc : List (MP.D × MP.D)} (ro : RelO P w K H (fun _ => none) D (.dic acc)) (k : Keep H H') (e : H' D = H D) : RelO P w K H' (fun _ => none) D (.dic acc) := by
  rcases ro with ⟨L, h, a, b⟩ | ⟨L, vs, h, a, b, c, d, f⟩
  · exact .inl ⟨L, e.trans h, a, b.keep k⟩
  · exact .inr ⟨L, vs, e.trans h, a, b.keep k, c, d.keep k, f⟩
theorem dic_there {P : Program} {w : World} {K : PySem.W.Frag} {H : Hp} {D : Addr} {acc : List (MP.D × MP.D)} (ro : RelO P w K H (fun _ => none) D (.dic acc)) : ∃ o, H D = some o ∧ Mut (some o) := RelM.mut (alone ro) mupd_same
section
variable {X : Cx} {pins : List (Addr × Obj)} {σ : L2.St} {H : Hp} {s : Shared} {E : Value → Shared → Prop}
theorem dic_fill {a : Addr} {acc : List (D × D)} {kd d : D} {y z : V} {u r : Value} (hu : X.A.units + 64 < cLine) (I : Inv X pins σ H s) (ro : RelO X.prog X.w X.K H (fun _ => none) a (.dic acc)) (ko : keyOk acc kd) (hl : acc.length < sizeLine)
    (rk : RelD X.K H kd y) (ru : RelV y u) (rd : RelD X.K H d z) (rv : RelV z r) {Q : Unit → Shared → Prop}
    (q : ∀ o s', Inv X pins σ (upd H a o) s' → RelO X.prog X.w X.K (upd H a o) (fun _ => none) a (.dic (dputD acc kd d)) → Q () s') : wpAny (model X.prog X.w) X.A (dictSet a u r) Q E s := by
  have rm := alone ro
  have h : mupd (fun _ => none) a (.dic acc) a = some (.dic acc) := mupd_same
  rcases ko with ⟨k1, k2⟩ | ⟨k1, k2, k, k3, k4⟩
  · obtain ⟨L, atL, eL, rL⟩ := dic_k rm h k2
    obtain ⟨k, ek⟩ := Option.isSome_iff_exists.mp k1
    obtain rfl := pkey_rel ek rk
    have len : L.length < sizeLine := by
      have := congrArg List.length eL
      simp only [List.length_map] at this
      omega
    have put := putK_rel ek eL rL rd
    exact d_dictSet I atL len ru rv fun s' I' => q _ s' I' (.inl ⟨_, upd_same, put.1, put.2.keep (rm.keepW h)⟩)
  · obtain ⟨L, dd, en, hz, hd⟩ := dic_n I rm h k2
    obtain ⟨b, rfl⟩ := tup_rel k1 rk
    cases ru
    have deep : ∀ p ∈ L, p.1.depth ≤ 8 := by
      obtain ⟨_, _, _, _, _, _, _, his, _⟩ := id dd
      exact fun p hp => (his p hp).2
    have eq : L.length = acc.length := by
      obtain ⟨_, e1, _⟩ := en
      have := congrArg List.length e1
      simp only [List.length_map] at this
      omega
    refine wpAny_dictSet_heap (knd := nestedKind X.prog X.w) (k := k) (hsz := hz) (show X.A.units + 8 < cLine by omega) ⟨Inv.nested I k3 rk rfl, k4⟩ dd fun h' dd' same => ?_
    have size : (storedH L k b r).length ≤ sizeLine := by
      unfold storedH
      split
      · rw [List.length_map]; exact hz
      · simp only [List.length_append, List.length_cons, List.length_nil]; omega
    obtain ⟨vs, n1, n2, n3, n4⟩ := en.put k3 rk rd rv
    obtain ⟨o, es, ep, h1, h2, h3, h4, _, h6⟩ := dd'
    obtain ⟨u', hu', mu⟩ := rm.mut h
    have kw := rm.keepW (u := RawD X.prog X.w a (storedH L k b r)) h
    refine q (RawD X.prog X.w a (storedH L k b r)) _ (d_write I (by rw [hu']; exact mu) same ⟨o, h1⟩ ⟨⟨size, hd, o, es, ep, h1, h2, h3, h4, h6⟩, ⟨o, h1⟩, ?_⟩) (.inr ⟨_, vs, upd_same, n1, n2.keep kw, ⟨dput_tup k2 k1, dput_ne, storedH_deep deep k4⟩, n3.keep kw, n4⟩)
    intro hA hB ⟨p1, p2, o, es, ep, g1, g2⟩ st
    exact ⟨p1, p2, o, es, ep, st o g1, g2⟩
end
def dnF (g : WG) (tt : WT) (tk te : WE) (stay : Mem → Prop) (ρ : Sl) (Q : D → Mem → Prop) : List D → List (D × D) → Mem → Prop
  | [], acc, M => stay M ∧ ∀ p, M p = none → Q (.ref p) (mupd M p (.dic acc))
  | x :: xs, acc, M => stay M ∧ g.f x ρ M fun ρ2 M2 => tt.f ρ2 M2 fun b M3 => (b = true → tk.f ρ2 M3 fun k M4 => te.f ρ2 M4 fun y M5 => keyOk acc k ∧ acc.length < sizeLine ∧ dnF g tt tk te stay ρ Q xs (dputD acc k y) M5) ∧ (b = false → dnF g tt tk te stay ρ Q xs acc M3)
theorem dnF_mono {g : WG} {tt : WT} {tk te : WE} {stay : Mem → Prop} {ρ : Sl} {Q Q' : D → Mem → Prop} (h : ∀ d M, Q d M → Q' d M) : ∀ (xs : List D) (acc : List (D × D)) (M : Mem), dnF g tt tk te stay ρ Q xs acc M → dnF g tt tk te stay ρ Q' xs acc M
  | [], _, _, q => ⟨q.1, fun p hp => h _ _ (q.2 p hp)⟩
  | x :: xs, acc, M, q => ⟨q.1, g.mono _ _ _ _ _ (fun ρ2 M2 q => tt.mono _ _ _ _ (fun b M3 q => ⟨fun e => tk.mono _ _ _ _ (fun k M4 q => te.mono _ _ _ _ (fun y M5 q => ⟨q.1, q.2.1, dnF_mono h xs _ _ q.2.2⟩) q) (q.1 e), fun e => dnF_mono h xs _ _ (q.2 e)⟩) q) q.2⟩
def wDn (wi : WI) (g : WG) (tt : WT) (tk te : WE) (vs : List Nat) : WE := ⟨fun ρ M Q => wi.f ρ M fun items stay M1 => dnF g tt tk te stay (wipeD ρ vs) Q items [] M1,
  fun ρ M Q Q' h q => wi.mono _ _ _ _ (fun ds st M q => dnF_mono h ds [] M q) q⟩
/-- where the turns of a block stand: the dict at a holds acc, and nothing but its turns knows it -/
structure Mid (P : Program) (w : World) (K : PySem.W.Frag) (a : Addr) (H1 : Hp) (M1 : Mem) (acc : List (D × D)) (H : Hp) (M : Mem) : Prop where
  dic : RelO P w K H (fun _ => none) a (.dic acc)
  hid : M a = none
  st : Step H1 M1 H M
  rm : RelM P w K H M
section
variable {P : Program} {w : World} {K : PySem.W.Frag} {a : Addr} {H1 H H' : Hp} {M1 M M' : Mem} {acc : List (D × D)}
theorem Mid.on (m : Mid P w K a H1 M1 acc H M) (st : Step H M H' M') (rm : RelM P w K H' M') : Mid P w K a H1 M1 acc H' M' := by
  obtain ⟨o, ho, _⟩ := dic_there m.dic
  obtain ⟨h, n⟩ := st a o ho m.hid
  exact ⟨dic_same m.dic (st.keep m.rm) (h.trans ho.symm), n, m.st.trans st, rm⟩
theorem Mid.put (m : Mid P w K a H1 M1 acc H M) (h1 : H1 a = none) {o : HO} {acc' : List (D × D)} (r : RelO P w K (upd H a o) (fun _ => none) a (.dic acc')) : Mid P w K a H1 M1 acc' (upd H a o) M := by
  obtain ⟨u, hu, mu⟩ := dic_there m.dic
  refine ⟨r, m.hid, fun b x hb nb => ?_, (m.rm.hidW hu m.hid mu).1⟩
  have ne : b ≠ a := fun e => by rw [e, h1] at hb; cases hb
  rw [upd_ne ne]
  exact m.st b x hb nb
theorem Mid.done (m : Mid P w K a H1 M1 acc H M) (h1 : H1 a = none) : Step H1 M1 H (mupd M a (.dic acc)) ∧ RelM P w K H (mupd M a (.dic acc)) := by
  refine ⟨fun b x hb nb => ?_, fun b o e => ?_⟩
  · have ne : b ≠ a := fun e => by rw [e, h1] at hb; cases hb
    rw [mupd_ne ne]
    exact m.st b x hb nb
  · by_cases ne : b = a
    · subst ne; rw [mupd_same] at e; cases e; exact m.dic
    · rw [mupd_ne ne] at e
      exact RelO.step m.rm ⟨fun _ _ h => h, fun _ _ _ h => h⟩ (m.rm b o e) (fun _ _ => rfl) e fun c _ hc => by
        rw [mupd_ne (fun z => by rw [z, m.hid] at hc; cases hc)]; exact hc
end
theorem unpin {B : Cx} {fp : List Addr} {it : Addr} {tg : Expr} {J : It} {tid : Nat → Heap → Prop} (T : Turn B.prog B.w B.K tg J fp it tid) {σ : L2.St} {H : Hp} {s s' : Shared} {i : Nat} (t : tid i s.heap) (I : Inv B ([] ++ pinsAt fp s.heap) σ H s') :
    tid i s'.heap ∧ ∀ b ∈ fp, H b = none := by
  have p : ∀ b ∈ fp, ∀ o, s.heap.get? b = some o → s'.heap.get? b = some o ∧ H b = none := fun b hb o e => by
    have z := I.pin (b, o) (by simp [mem_pinsAt hb e])
    exact ⟨z.1, z.2.1⟩
  refine ⟨T.keep _ _ _ t fun b hb o e => (p b hb o e).1, fun b hb => ?_⟩
  obtain ⟨o, e, _⟩ := T.obj _ _ t b hb
  exact (p b hb o e).2
/-- the turns -/
theorem dn_turns {B : Cx} {fp : List Addr} {it a : Addr} {tg kx vx iter : Expr} {ifs : List Expr} {scope : Scope} {pos : Pos} {J : It} {tid : Nat → Heap → Prop} {g : WG} {tt : WT} {tk te : WE} {vs : List Nat} {items : List D} {stay : Mem → Prop} {R : Result → Shared → Prop}
    {σ : L2.St} {ρ : Sl} {H1 : Hp} {M1 : Mem} {Q' : D → Mem → Prop} (hc : B.calm = true) (hx : B.xe = fun _ _ => False) (hu : B.A.units + 64 < cLine) (T : Turn B.prog B.w B.K tg J fp it tid) (hg : DG B tg g) (ht : DTs B ifs tt) (hk : DE B kx tk) (hv : DE B vx te) (hsl : ∀ i ∈ g.sl, i ∈ vs)
    (off : ∀ {σ : L2.St} {H : Hp} {s : Shared}, Inv B [] σ H s → (∀ b ∈ fp, H b = none) → ∀ b ∈ fp, FpOk B [] H b) (ha : H1 a = none) (rs : RelS B.K H1 ρ σ) (m1 : RelM B.prog B.w B.K H1 M1) (ok : ItOk B.prog B.w B.K J items stay H1)
    (fin : ∀ s' H' M', Inv B [] (wipe σ vs) H' s' → Step H1 M1 H' M' → RelM B.prog B.w B.K H' M' → Q' (.ref a) M' → R (.ok .next) s')
    {s0 : Shared} (I0 : Inv B [] (wipe σ vs) (upd H1 a (.dK [])) s0) (t0 : tid 0 s0.heap) (f0 : ∀ b ∈ fp, upd H1 a (.dK []) b = none) (q : dnF g tt tk te stay (wipeD ρ vs) Q' items [] M1) :
    codeAny (model B.prog B.w) B.A (.compLoop (.DictComp kx vx [⟨tg, iter, ifs, 0⟩] scope pos) 0 (.ref it) (.ref a) B.env) R s0 := by
  refine compLoop_anyD (fun n s => ∃ i H M acc, i + n = items.length ∧ Inv B [] (wipe σ vs) H s ∧ tid i s.heap ∧ (∀ b ∈ fp, H b = none) ∧ Mid B.prog B.w B.K a H1 M1 acc H M ∧ dnF g tt tk te stay (wipeD ρ vs) Q' (items.drop i) acc M) ?_ items.length
    ⟨0, _, M1, [], by omega, I0, t0, f0, ⟨.inl ⟨[], upd_same, rfl, .nil⟩, m1.free ha, Step.beside ha, m1.beside ha⟩, q⟩
  rintro n s ⟨i, H, M, acc, hn, I, t, f, mid, q⟩
  have here := ok i H M (mid.st.keep m1) mid.rm
  by_cases hi : i < items.length
  · rw [List.drop_eq_getElem_cons hi] at q
    obtain ⟨go, yl⟩ := (here q.1).2 _ (List.getElem?_eq_getElem hi)
    refine thnF (T.item B rfl rfl rfl hc i [] s _ H (fun _ _ => False) I (off I f) t go) fun r s2 ⟨u, er, l2⟩ => ?_
    subst er
    refine thnF l2 fun _ s3 ⟨x, H3, I3, r3, y3, t3, f3⟩ => ?_
    obtain ⟨st3, m3, d3⟩ := yl x H3 y3
    have mid3 := mid.on st3 m3
    have rs3 := (rs.keep (mid3.st.keep m1)).wipe vs
    -- what a turn leaves
    have next : ∀ {σ' : L2.St} {H' : Hp} {M' : Mem} {s' : Shared} {acc' : List (D × D)}, Inv B ([] ++ pinsAt fp s3.heap) σ' H' s' → SlSame (wipe σ vs) σ' g.sl → Mid B.prog B.w B.K a H1 M1 acc' H' M' → dnF g tt tk te stay (wipeD ρ vs) Q' (items.drop (i + 1)) acc' M' →
        ∃ m, m < n ∧ ∃ i H M acc, i + m = items.length ∧ Inv B [] (wipe σ vs) H s' ∧ tid i s'.heap ∧ (∀ b ∈ fp, H b = none) ∧ Mid B.prog B.w B.K a H1 M1 acc H M ∧ dnF g tt tk te stay (wipeD ρ vs) Q' (items.drop i) acc M := fun {σ' H' M' s' acc'} I' same mid' q' => by
      have w := wipe_same same hsl
      obtain ⟨t', f'⟩ := unpin T t3 I'
      refine ⟨n - 1, by omega, i + 1, H', M', acc', by omega, I'.unpinned.weak (by rw [wipe_length, same.1, wipe_length]) fun j v e => ?_, t', f', mid', q'⟩
      rw [← w] at e
      exact (wipe_some e).1
    have xe : ∀ {α : Type} {t : Sem α} {Q : α → Shared → Prop} {s : Shared} {E : Value → Shared → Prop}, wpAny (model B.prog B.w) B.A t Q B.xe s → wpAny (model B.prog B.w) B.A t Q E s := fun {α t Q s E} h => by rw [hx] at h; exact thnF h fun _ _ z => z
    refine thn (xe (hg.pg.run _ s3 _ H3 x u (fun σ4 H4 => ∃ ρ4 M4, Step H3 M H4 M4 ∧ RelM B.prog B.w B.K H4 M4 ∧ RelS B.K H4 ρ4 σ4 ∧ SlSame (wipe σ vs) σ4 g.sl ∧ _) (I3.pinned (off I3 f3) (T.obj _ _ t3)) r3
      ⟨_, wipeD ρ vs, M, _, d3, rs3, m3, q.2, fun σ4 ρ4 H4 M4 st4 m4 r4 same q4 => ⟨ρ4, M4, st4, m4, r4, same, q4⟩⟩)) fun _ s4 ⟨σ4, H4, I4, ρ4, M4, st4, m4, r4, same, q4⟩ => ?_
    refine thn (xe (ht.pts.run _ s4 σ4 H4 (fun b H5 => ∃ M5, Step H4 M4 H5 M5 ∧ RelM B.prog B.w B.K H5 M5 ∧ _) I4 ⟨ρ4, M4, _, r4, m4, q4, fun b H5 M5 st5 m5 q5 => ⟨M5, st5, m5, q5⟩⟩)) fun b s5 ⟨H5, I5, M5, st5, m5, q5⟩ => ?_
    have mid5 := mid3.on (st4.trans st5) m5
    cases b with
    | false => exact next I5 same mid5 (q5.2 rfl)
    | true =>
      refine thn (xe (hk.pe.run _ s5 σ4 H5 (fun y H6 => ∃ kd M6, Step H5 M5 H6 M6 ∧ RelM B.prog B.w B.K H6 M6 ∧ RelD B.K H6 kd y ∧ _) I5 ⟨ρ4, M5, _, r4.keep (st5.keep m4), m5, q5.1 rfl, fun y kd H6 M6 st6 m6 r6 q6 => ⟨kd, M6, st6, m6, r6, q6⟩⟩)) fun uk s6 ⟨yk, H6, I6, ru6, kd, M6, st6, m6, r6, q6⟩ => ?_
      refine thn (xe (hv.pe.run _ s6 σ4 H6 (fun y H7 => ∃ d M7, Step H6 M6 H7 M7 ∧ RelM B.prog B.w B.K H7 M7 ∧ RelD B.K H7 d y ∧ _) I6 ⟨ρ4, M6, _, r4.keep ((st5.trans st6).keep m4), m6, q6, fun y d H7 M7 st7 m7 r7 q7 => ⟨d, M7, st7, m7, r7, q7⟩⟩)) fun uv s7 ⟨yv, H7, I7, ru7, d, M7, st7, m7, r7, ko, hl, q7⟩ => ?_
      have mid7 := mid5.on (st6.trans st7) m7
      exact dic_fill hu I7 mid7.dic ko hl (r6.keep (st7.keep m6)) ru6 r7 ru7 fun o s8 I8 r8 => next I8 same (mid7.put ha r8) q7
  · rw [List.drop_of_length_le (by omega)] at q
    refine thnF (T.done B rfl rfl rfl hc i [] s _ H (fun _ _ => False) I (off I f) t ((here q.1).1 (by omega))) fun r s2 ⟨er, I2⟩ => ?_
    subst er
    obtain ⟨st, rm⟩ := mid.done ha
    exact fin s2 H _ I2 st rm (q.2 a mid.hid)
section
variable {X : Cx} {pins : List (Addr × Obj)} {σ : L2.St} {H : Hp} {s : Shared}
/-- back from a block -/
theorem blk_back {scope : Scope} {fp : List Addr} {env2 : Env} (I : Inv X pins σ H s) (hf : ∀ b ∈ fp, FpOk X pins H b) (loc : env2.locals = s.heap.objs.size) {σ' : L2.St} {H' : Hp} {s' : Shared} (I' : Inv (X.blk s H scope env2 fp) [] σ' H' s') :
    Inv X pins σ H' s' ∧ FpOk X pins H' s.heap.objs.size ∧ ∃ m, s'.heap.Ns s.heap.objs.size m := by
  refine ⟨I.call' (ch := fp) I'.os I'.base I'.hok I'.bare fun b hb => ⟨(hf b hb).2.2.2.1, (hf b hb).2.1, (hf b hb).2.2.2.2.1, (hf b hb).2.2.2.2.2⟩, I.fpOk (Nat.le_refl _) ?_, ?_⟩
  · rw [← loc]; exact I'.free
  · obtain ⟨m, h, _⟩ := I'.loc
    exact ⟨m, by rw [← loc]; exact h⟩
theorem blk_off {scope : Scope} {fp : List Addr} {env2 : Env} {σ' : L2.St} {H' : Hp} {s' : Shared} (I' : Inv (X.blk s H scope env2 fp) [] σ' H' s') (n : ∀ b ∈ fp, H' b = none) : ∀ b ∈ fp, FpOk (X.blk s H scope env2 fp) [] H' b :=
  fun b hb => ⟨n b hb, (I'.ok.exf b hb).1, I'.ok.exfs b hb, .inl hb, (I'.ok.exf b hb).2, by intro p hp; cases hp⟩
variable {kx vx tg iter : Expr} {ifs : List Expr} {scope : Scope} {own : List (Str × Nat)} {pos pos' : Pos} {wi : WI} {g : WG} {tt : WT} {tk te : WE} {use : Option (Value → Sem Unit)} {Qf : Value → Shared → Prop} {ρ : Sl} {M : Mem} {Q' : D → Mem → Prop}
theorem dn_comp (hu : X.A.units + 64 < cLine) (hc : X.calm = true) (hN : X.N.Nodup) (I : Inv X pins σ H s) (hi : DI X tg iter wi) (ok : BlkOk X.N X.env.scope scope own)
    (hg : ∀ (s : Shared) (H : Hp) (C : Addr) (cl : List (Str × Addr)) (fp : List Addr), DG (X.blk s H scope (compEnvC scope cl C X.env) fp) tg g) (ht : ∀ (s : Shared) (H : Hp) (C : Addr) (cl : List (Str × Addr)) (fp : List Addr), DTs (X.blk s H scope (compEnvC scope cl C X.env) fp) ifs tt)
    (hk : ∀ (s : Shared) (H : Hp) (C : Addr) (cl : List (Str × Addr)) (fp : List Addr), DE (X.blk s H scope (compEnvC scope cl C X.env) fp) kx tk) (hv : ∀ (s : Shared) (H : Hp) (C : Addr) (cl : List (Str × Addr)) (fp : List Addr), DE (X.blk s H scope (compEnvC scope cl C X.env) fp) vx te)
    (hsl : ∀ i ∈ g.sl, i ∈ own.map (·.2)) (hs : ∀ x, foldedSetIterable iter X.env x = pure x) (rs : RelS X.K H ρ σ) (rm : RelM X.prog X.w X.K H M) (q : (wDn wi g tt tk te (own.map (·.2))).f ρ M Q')
    (fin : ∀ a C s' m H' M', Inv X pins σ H' s' → Step H M H' M' → RelM X.prog X.w X.K H' M' → Q' (.ref a) M' → s'.heap.Ns C m → FpOk X pins H' C → compPost (model X.prog X.w) X.A X.xe use Qf (.ref a) C (.ok .next) s') :
    wpAny (model X.prog X.w) X.A (comprehension (.DictComp kx vx [⟨tg, iter, ifs, 0⟩] scope pos) scope X.env pos' newDict false (eval iter X.env) use) Qf X.xe s := by
  have cells : ∀ y ∈ scope.names, y.2 = .free → ∃ c, X.env.cells.lookup y.1 = some c := fun y hy e => I.ok.has _ (ok.free y hy e)
  refine wpAny_comprehension_free (use := use) rfl hs (closure_ok cells) ok.kind (fun y hy e => (ok.uniq y hy).trans (congrArg some e)) (thn (hi.pi.run pins s σ H (fun J H1 => ∃ items stay M1, Step H M H1 M1 ∧ RelM X.prog X.w X.K H1 M1 ∧ ItOk X.prog X.w X.K J items stay H1 ∧ dnF g tt tk te stay (wipeD ρ (own.map (·.2))) Q' items [] M1) I
    ⟨ρ, M, _, rs, rm, q, fun J items stay H1 M1 st m1 q1 ok1 => ⟨items, stay, M1, st, m1, ok1, q1⟩⟩) fun _ s1 h1 => thn h1 fun itv s2 h2 => ?_)
  obtain ⟨it, fp, tid, J, H2, rfl, I2, T, t2, f2, items, stay, M1, st, m1, ok1, q1⟩ := h2
  refine wpAny_newObj_type (newEnv_comp ?_)
  have push : ∀ b o, s2.heap.get? b = some o → (s2.heap.push { cls := .type "dict", data := .dict #[] }).get? b = some o := fun b o e => Heap.get?_push_of_some _ e
  have fresh : H2 s2.heap.objs.size = none := I2.hok.fresh (Nat.le_refl _)
  have I3 := I2.laid (t' := s2.toks) push (Nat.le_refl _) (dk_empty s2.heap I2.big)
  have f3 : ∀ b ∈ fp, FpOk X pins (upd H2 s2.heap.objs.size (.dK [])) b ∧ b < s2.heap.objs.size := fun b hb => by
    obtain ⟨o, e, _⟩ := T.obj _ _ t2 b hb
    have lt := Heap.lt_size e
    exact ⟨⟨(upd_ne (Nat.ne_of_lt lt)).trans (f2 b hb).1, (f2 b hb).2⟩, lt⟩
  have I4 := block_start I3 ok hN fun b hb => ⟨(f3 b hb).1, by rw [Heap.size_push]; exact Nat.lt_succ_of_lt (f3 b hb).2⟩
  have t4 := T.keep 0 s2.heap (pushCells ((s2.heap.push { cls := .type "dict", data := .dict #[] }).push { cls := .type "dict", data := .dict #[] }) scope.names) t2 fun b _ o e => pushCells_keeps _ _ _ _ (Heap.get?_push_of_some _ (push b o e))
  have turns := dn_turns (B := X.blk _ _ scope (compEnvC scope _ _ X.env) fp) (iter := iter) (scope := scope) (pos := pos) (R := compPost (model X.prog X.w) X.A X.xe use Qf (.ref s2.heap.objs.size) (s2.heap.push { cls := .type "dict", data := .dict #[] }).objs.size) hc rfl hu T (hg _ _ _ _ fp) (ht _ _ _ _ fp) (hk _ _ _ _ fp) (hv _ _ _ _ fp) hsl blk_off fresh (rs.keep (st.keep rm)) m1 ok1
    (fun s' H' M' I' st' m' q' => by
      obtain ⟨I5, fC, m, hm⟩ := blk_back I3 (fun b hb => (f3 b hb).1) rfl I'
      exact fin _ _ s' m H' M' I5 (st.trans st') m' q' hm fC) I4 t4 (fun b hb => (f3 b hb).1.1) q1
  exact codeAny_compStart_dict turns (T.self X.A 0 _ _ _ t4 turns)
theorem de_dn (hu : X.A.units + 64 < cLine) (hc : X.calm = true) (hN : X.N.Nodup) (hi : DI X tg iter wi) (ok : BlkOk X.N X.env.scope scope own)
    (hg : ∀ (s : Shared) (H : Hp) (C : Addr) (cl : List (Str × Addr)) (fp : List Addr), DG (X.blk s H scope (compEnvC scope cl C X.env) fp) tg g) (ht : ∀ (s : Shared) (H : Hp) (C : Addr) (cl : List (Str × Addr)) (fp : List Addr), DTs (X.blk s H scope (compEnvC scope cl C X.env) fp) ifs tt)
    (hk : ∀ (s : Shared) (H : Hp) (C : Addr) (cl : List (Str × Addr)) (fp : List Addr), DE (X.blk s H scope (compEnvC scope cl C X.env) fp) kx tk) (hv : ∀ (s : Shared) (H : Hp) (C : Addr) (cl : List (Str × Addr)) (fp : List Addr), DE (X.blk s H scope (compEnvC scope cl C X.env) fp) vx te)
    (hsl : ∀ i ∈ g.sl, i ∈ own.map (·.2) := by decide) (hs : ∀ x, foldedSetIterable iter X.env x = pure x := by intro _; rfl) : DE X (.DictComp kx vx [⟨tg, iter, ifs, 0⟩] scope pos) (wDn wi g tt tk te (own.map (·.2))) := ⟨⟨fun pins s σ H Q I ⟨ρ, M, Q', rs, rm, q, po⟩ => by
  rw [arm_eval_DictComp]
  refine dn_comp hu hc hN I hi ok hg ht hk hv hsl hs rs rm q fun a C s' m H' M' I' st m' q' hm f => ⟨m, hm, fun h'' sb => ?_⟩
  exact ⟨.ref a, H', I'.turned (t' := s'.toks) (fun b o hb e => (sb.2 b hb).trans e) f.1 f.2.1 f.2.2.2.1 f.2.2.2.2.1 f.2.2.2.2.2, rfl, po _ _ H' M' st m' (.ref a) q'⟩⟩⟩
theorem ds_setDn {i : Nat} {y : Str} {py spos : Pos} (hu : X.A.units + 64 < cLine) (hc : X.calm = true) (hN : X.N.Nodup) (hy : X.N[i]? = some y) (hyl : X.env.scope.names.lookup y = some .local)
    (hsw : swapsWith (.DictComp kx vx [⟨tg, iter, ifs, 0⟩] scope pos) (some (.Name y py)) spos.line X.env = pure true) (hi : DI X tg iter wi) (ok : BlkOk X.N X.env.scope scope own)
    (hg : ∀ (s : Shared) (H : Hp) (C : Addr) (cl : List (Str × Addr)) (fp : List Addr), DG (X.blk s H scope (compEnvC scope cl C X.env) fp) tg g) (ht : ∀ (s : Shared) (H : Hp) (C : Addr) (cl : List (Str × Addr)) (fp : List Addr), DTs (X.blk s H scope (compEnvC scope cl C X.env) fp) ifs tt)
    (hk : ∀ (s : Shared) (H : Hp) (C : Addr) (cl : List (Str × Addr)) (fp : List Addr), DE (X.blk s H scope (compEnvC scope cl C X.env) fp) kx tk) (hv : ∀ (s : Shared) (H : Hp) (C : Addr) (cl : List (Str × Addr)) (fp : List Addr), DE (X.blk s H scope (compEnvC scope cl C X.env) fp) vx te)
    (hsl : ∀ i ∈ g.sl, i ∈ own.map (·.2) := by decide) (hs : ∀ x, foldedSetIterable iter X.env x = pure x := by intro _; rfl) : DS X (.Assign [.Name y py] (.DictComp kx vx [⟨tg, iter, ifs, 0⟩] scope pos) spos) (sAsg (wDn wi g tt tk te (own.map (·.2))) (gN i)) := ⟨⟨fun pins s σ H B I ⟨ρ, M, A, rs, rm, q, po⟩ => by
  rw [exec_Assign_Name_used _ _ _ _ hsw]
  refine wpAny_bind (wpAny_standAt (wpAny_bind (wpAny_bind (thn (dn_comp (use := some (assign (.Name y py) X.env)) (Qf := fun _ s' => SP X pins B .next s') hu hc hN I hi ok hg ht hk hv hsl hs rs rm q fun a C s' m H' M' I' st m' q' hm f => ?_) fun _ _ h => wpAny_pure (wpAny_pure h)))))
  refine wpAny_assign_Name (store_ok2 (v := V.ref a) I' hN hy (.inl hyl) rfl (fun sB IB hB => ?_) (.inr hyl))
  obtain ⟨mB, nB, left⟩ := block_left f hm IB hB
  exact ⟨mB, nB, fun h' same => ⟨_, H', left h' same, po.nx _ _ H' M' st m' ((rs.keep (st.keep rm)).set i (.ref a)) q'⟩⟩⟩⟩
end
end MP

namespace MP
open PySem PySem.Spec PyProof.Rows L2

/-! ### xs[::-1], tuples and lists -/
theorem places_back (n : Nat) : Builtin.Slice.slicePlaces ((n : Int) - 1) (-1) (-1) = n := by
  unfold Builtin.Slice.slicePlaces
  rw [if_neg (by decide)]
  by_cases h : n = 0
  · subst h; rfl
  · rw [if_pos (by omega), show (-(-1) : Int) = 1 from rfl, Int.ediv_one]; omega
theorem pick_back (xs : Array Value) : (List.range xs.size).filterMap (fun (m : Nat) => xs[(((xs.size : Nat) : Int) - 1 + (m : Int) * (-1)).toNat]?) = xs.toList.reverse := by
  have e : (List.range xs.size).map (fun (m : Nat) => (((xs.size : Nat) : Int) - 1 + (m : Int) * (-1)).toNat) = (List.range xs.size).reverse := by
    rw [← PySem.W.krv_range]
    exact List.map_congr_left fun m hm => by have := List.mem_range.mp hm; omega
  have f := List.filterMap_map (l := List.range xs.size) (f := fun (m : Nat) => (((xs.size : Nat) : Int) - 1 + (m : Int) * (-1)).toNat) (g := fun m => xs[m]?)
  rw [e, List.filterMap_reverse, PySem.W.krv_all] at f
  exact f.symm
section
variable {prog : Program} {w : World} {A : Around} {E : Value → Shared → Prop} {s : Shared}
theorem getItem_tuple_back {t sl : Addr} {items : Array Value} {u : Tok} {Q : Value → Shared → Prop} (ht : IsTup s.heap t items) (hs : s.heap.IsSliceOf sl .none .none (.int (-1) u)) (hz : items.size ≤ sizeLine)
    (h : Q (.ref s.heap.objs.size) { s with heap := s.heap.push { cls := .type "tuple", data := .seq items.toList.reverse.toArray } }) : wpAny (model prog w) A (getItem (.ref t) (.ref sl)) Q E s := by
  obtain ⟨os, hos, hcs, hds⟩ := id hs
  have hT : s.TypeIs (.ref sl) "slice" := ⟨os, hos, hcs⟩
  have app : ∀ {B : Around} {F : Value → Shared → Prop} {R : Int × Int × Nat → Shared → Prop}, R (((items.size : Nat) : Int) - 1, -1, items.size) s → wpAny (model prog w) B (Builtin.Slice.sliceApplied (.ref sl) (pure ((items.size : Nat) : Int))) R F s := fun {B F R} hR => by
    unfold Builtin.Slice.sliceApplied Builtin.Slice.sliceFields
    refine wpAny_bind (wpAny_bind (wpAny_field hos hds (x := .none) rfl (wpAny_bind (wpAny_field hos hds (x := .none) rfl (wpAny_bind (wpAny_field hos hds (x := .int (-1) u) rfl (wpAny_pure ?_)))))))
    refine wpAny_bind (slicePart_int ?_)
    show wpAny _ _ (if ((-1 : Int) == 0) = true then _ else _) _ _ s
    rw [if_neg (by decide)]
    refine wpAny_bind (slicePart_none (wpAny_bind (slicePart_none (wpAny_bind (wpAny_pure (wpAny_pure ?_))))))
    show R (((items.size : Nat) : Int) - 1, -1, Builtin.Slice.slicePlaces (((items.size : Nat) : Int) - 1) (-1) (-1)) s
    rw [places_back]
    exact hR
  unfold getItem
  refine wpAny_holding ?_
  refine wpAny_bind (wpAny_sequenceKey ht.typeIs (by decide) ?_)
  refine wpAny_bind (wpAny_callSpecial?_slot (name := Str.ofString "__getitem__") ht.typeIs slot_tuple_getitem (wpAny_call_entry slot_tuple_getitem ht.typeIs entry_tuple_getitem ?_ (args_tuple_getitem _ _)))
  show wpAny _ _ (Builtin.Tuple.tupleItemsOf (.ref t) >>= _) _ _ s
  refine wpAny_bind (tupleItemsOf_ ht (wpAny_bind (wpAny_typeOf hT ?_)))
  rw [if_pos (by decide)]
  refine wpAny_bind (app ?_)
  show wpAny _ _ (if (((items.size : Nat) : Int) - 1 == 0 && (-1 : Int) == 1 && items.size == items.size) = true then _ else _) _ _ s
  have no : ((((items.size : Nat) : Int) - 1 == 0 && (-1 : Int) == 1 && items.size == items.size)) = false := by
    rw [show ((-1 : Int) == 1) = false from rfl, Bool.and_false, Bool.false_and]
  rw [no, if_neg Bool.false_ne_true]
  show wpAny _ _ (Builtin.Tuple.tupleExact ((List.range items.size).filterMap fun (m : Nat) => items[(((items.size : Nat) : Int) - 1 + (m : Int) * (-1)).toNat]?).toArray >>= _) _ _ s
  rw [pick_back]
  exact wpAny_bind (m := Builtin.Tuple.tupleExact _) (wpAny_newObj_type (wpAny_pure ⟨_, rfl, wpAny_pure h⟩) (by show items.toList.reverse.toArray.size ≤ sizeLine; simpa using hz))
end
def revF (d : D) (M : Mem) (Q : D → Mem → Prop) : Prop := match d with
  | .tup xs => Q (.tup xs.reverse) M
  | .ref a => ∃ xs, M a = some (.lst xs) ∧ ∀ p, M p = none → Q (.ref p) (mupd M p (.lst xs.reverse))
  | _ => False
def wRev (e : WE) : WE := ⟨fun ρ M Q => e.f ρ M fun d M1 => revF d M1 Q, fun ρ M Q Q' h q => e.mono _ _ _ _ (fun d M1 q => by
  cases d <;> first | exact q.elim | exact h _ _ q | (obtain ⟨xs, e, q⟩ := q; exact ⟨xs, e, fun p hp => h _ _ (q p hp)⟩)) q⟩
section
variable {X : Cx}
theorem de_rev {e : Expr} {we : WE} {k : Nat} {p1 p2 p3 pos : Pos} (he : DE X e we) : DE X (.Subscript e (.Slice none none (some (.UnaryOp .USub (.Constant (.int 1) k p1) p2)) p3) pos) (wRev we) := ⟨⟨fun pins s σ H Q I ⟨ρ, M, Q', rs, rm, q, po⟩ => by
  refine Subscript_ (thn (he.pe.run pins s σ H (fun v H1 => ∃ d M1, Step H M H1 M1 ∧ RelM X.prog X.w X.K H1 M1 ∧ RelD X.K H1 d v ∧ revF d M1 Q') I ⟨ρ, M, _, rs, rm, q, fun v d H1 M1 s1 m1 r1 q1 => ⟨d, M1, s1, m1, r1, q1⟩⟩) fun v s1 ⟨x, H1, I1, rv, d, M1, st1, m1, rd, q1⟩ => ?_)
  refine wpAny_Slice ?_
  simp only [evalPart_none]
  refine wpAny_pure (wpAny_pure ?_)
  rw [evalPart_some]
  refine thn ((pe_un (X := X) un_neg pe_int).run pins s1 σ H1 (fun x H2 => x = .int (-1) ∧ H2 = H1) I1 ⟨1, rfl, rfl, rfl⟩) fun vs s2 ⟨y, H2, I2, ry, ey, eH⟩ => ?_
  subst ey eH
  obtain ⟨t, rfl⟩ := ry
  have I3 : Inv X pins σ H2 { s2 with heap := s2.heap.push { cls := .type "slice", data := .fields #[.none, .none, .int (-1) t] } } := I2.kept (t' := s2.toks) fun b ob q => Heap.get?_push_of_some _ q
  have sl := Heap.IsSliceOf.new s2.heap .none .none (.int (-1) t)
  have po1 := po.after st1
  have lst : ∀ {a : Addr} {xs : List D} {vs : List V}, v = .ref a → SqL X.K H2 a vs → RelDs X.K H2 xs vs → (∀ p, M1 p = none → Q' (.ref p) (mupd M1 p (.lst xs.reverse))) →
      wpAny (model X.prog X.w) X.A (subscriptTail e (.Slice none none (some (.UnaryOp .USub (.Constant (.int 1) k p1) p2)) p3) v (.ref s2.heap.objs.size)) (EP X pins σ Q) X.xe { s2 with heap := s2.heap.push { cls := .type "slice", data := .fields #[.none, .none, .int (-1) t] } } := fun {a xs vs} ev hs r q => by
    subst ev
    obtain ⟨its, rv, p, hz⟩ := I3.list hs
    have hl := rv.length
    refine tail_any (ops := [.ref a, .ref s2.heap.objs.size]) p.isList.typeIs PySem.slot_list_getitem.lookup (wpAny_getItem_list_slice p.isList sl .none .none (.int (-1) t) (by decide) ?_ (by rw [List.size_toArray]; omega)) (by with_unfolding_all rfl)
    rw [PySem.W.krv_pick]
    have fr := I3.hok.fresh (Nat.le_refl _)
    exact ⟨.ref _, _, I3.laid (t' := s2.toks) (o := .lst vs.reverse) (fun b ob q => Heap.get?_push_of_some _ q) (Nat.le_refl _) ⟨by rw [List.length_reverse]; exact hz, _, 0, rv.reverse, Heap.get?_push_size _ rfl⟩, rfl,
      po1 _ _ _ _ (Step.new m1 fr (.lst _)) (m1.laid fr (keep_new fr) ⟨_, upd_same, r.reverse.keep (keep_new fr)⟩) (.ref _) (q _ (m1.free fr))⟩
  cases rd with
  | tup ht hr =>
    cases rv
    obtain ⟨its, rv, p, hz⟩ := I3.tuple ht.sq
    have hl := rv.length
    refine tail_any (ops := [.ref _, .ref s2.heap.objs.size]) p.typeIs slot_tuple_getitem.lookup (getItem_tuple_back p sl (by rw [List.size_toArray]; omega) ?_) (by with_unfolding_all rfl)
    have fr := I3.hok.fresh (Nat.le_refl _)
    obtain ⟨n1, n2, n3⟩ := new_tup m1 fr hr.reverse
    exact ⟨.ref _, _, I3.laid (t' := s2.toks) (o := .tup _) (fun b ob q => Heap.get?_push_of_some _ q) (Nat.le_refl _) ⟨by rw [List.length_reverse]; exact hz, _, rv.reverse, IsTup.new _ _⟩, rfl, po1 _ _ _ _ n1 n2 n3 q1⟩
  | ref a =>
    obtain ⟨xs, h0, q2⟩ := q1
    obtain ⟨vs, hH, hr⟩ := m1 _ _ h0
    exact lst rv (.inl (.inl hH)) hr q2
  | _ => exact False.elim q1⟩⟩
end

/-! ### == of lists of lists -/
def rowsAt (M : Mem) : List D → List (List D) → Prop
  | [], [] => True
  | .ref a :: ds, xs :: xss => M a = some (.lst xs) ∧ D.pls xs ∧ rowsAt M ds xss
  | _, _ => False
def rowsPy (xss : List (List D)) : List PyData := xss.map fun xs => .list (D.pys xs)
theorem rows_dp {P : Program} {w : World} {K : PySem.W.Frag} {H : Hp} {M : Mem} (rm : RelM P w K H M) : ∀ (ds : List D) (xss : List (List D)) (vs : List V), rowsAt M ds xss → RelDs K H ds vs → DpAll K H vs (rowsPy xss)
  | [], [], _, _, .nil => .nil
  | [], _ :: _, _, h, _ => h.elim
  | .ref a :: ds, xs :: xss, _, ⟨h, p, t⟩, .cons (.ref _) r => by
    obtain ⟨us, hH, hr⟩ := rm a _ h
    exact .cons (.lst (.inl (.inl hH)) (relDs_dp xs us hr p)) (rows_dp rm ds xss _ t r)
  | .ref _ :: _, [], _, h, _ => h.elim
  | .non :: _, [], _, h, _ | .bl _ :: _, [], _, h, _ | .int _ :: _, [], _, h, _ | .str _ :: _, [], _, h, _ | .tup _ :: _, [], _, h, _ | .ty _ :: _, [], _, h, _ | .fl _ :: _, [], _, h, _ => h.elim
  | .non :: _, _ :: _, _, h, _ | .bl _ :: _, _ :: _, _, h, _ | .int _ :: _, _ :: _, _, h, _ | .str _ :: _, _ :: _, _, h, _ | .tup _ :: _, _ :: _, _, h, _ | .ty _ :: _, _ :: _, _, h, _ | .fl _ :: _, _ :: _, _, h, _ => h.elim
theorem rows_plain {M : Mem} : ∀ (ds : List D) (xss : List (List D)), rowsAt M ds xss → PyData.plainAll (rowsPy xss) = true
  | [], [], _ => rfl
  | [], _ :: _, h => h.elim
  | .ref a :: ds, xs :: xss, ⟨_, p, t⟩ => by
    show (PyData.plain (.list (D.pys xs)) && PyData.plainAll (rowsPy xss)) = true
    rw [rows_plain ds xss t, Bool.and_true, PyData.plain]; exact p
  | .ref _ :: _, [], h => h.elim
  | .non :: _, [], h | .bl _ :: _, [], h | .int _ :: _, [], h | .str _ :: _, [], h | .tup _ :: _, [], h | .ty _ :: _, [], h | .fl _ :: _, [], h => h.elim
  | .non :: _, _ :: _, h | .bl _ :: _, _ :: _, h | .int _ :: _, _ :: _, h | .str _ :: _, _ :: _, h | .tup _ :: _, _ :: _, h | .ty _ :: _, _ :: _, h | .fl _ :: _, _ :: _, h => h.elim
def rEqR (n : Bool) : W2 := ⟨fun d e M Q => ∃ a b ds es xss yss, d = .ref a ∧ e = .ref b ∧ M a = some (.lst ds) ∧ M b = some (.lst es) ∧ rowsAt M ds xss ∧ rowsAt M es yss ∧ min (PyData.depthAll (rowsPy xss)) (PyData.depthAll (rowsPy yss)) ≤ 60 ∧ Q (.bl (xor n (PyData.eqvAll (rowsPy xss) (rowsPy yss)))) M,
  fun d e M Q Q' h ⟨a, b, ds, es, xss, yss, e1, e2, e3, e4, e5, e6, e7, q⟩ => ⟨a, b, ds, es, xss, yss, e1, e2, e3, e4, e5, e6, e7, h _ _ q⟩⟩
section
variable {X : Cx}
theorem d_eqR (hu : X.A.units + 64 < cLine) : D2 X (compareOp .Eq) (rEqR false) := ⟨by
  intro pins s σ H x y v u Q I rx ry ⟨d, e, M, Q', rd, re, rm, ⟨a, b, ds, es, xss, yss, e1, e2, ha, hb, hx, hy, hz, q⟩, po⟩
  subst e1 e2
  cases rd; cases re; cases rx; cases ry
  obtain ⟨vs, h1, r1⟩ := rm _ _ ha
  obtain ⟨ws, h2, r2⟩ := rm _ _ hb
  obtain ⟨_, g1⟩ := Dp.reads I (.list (rowsPy xss)) (.ref a) (.ref a) (.lst (.inl (.inl h1)) (rows_dp rm _ _ _ hx r1)) rfl
  obtain ⟨_, g2⟩ := Dp.reads I (.list (rowsPy yss)) (.ref b) (.ref b) (.lst (.inl (.inl h2)) (rows_dp rm _ _ _ hy r2)) rfl
  exact PySem.SeqAt.eq_plain g1 g2 (by rw [PyData.plain]; exact rows_plain _ _ hx) (by rw [PyData.plain]; exact rows_plain _ _ hy) (by rw [PyData.depth, PyData.depth]; omega) (fin_b I rm po q (by rw [xor_f, PyData.eqv]))⟩
theorem d_neR (hu : X.A.units + 64 < cLine) : D2 X (compareOp .NotEq) (rEqR true) := ⟨by
  intro pins s σ H x y v u Q I rx ry ⟨d, e, M, Q', rd, re, rm, ⟨a, b, ds, es, xss, yss, e1, e2, ha, hb, hx, hy, hz, q⟩, po⟩
  subst e1 e2
  cases rd; cases re; cases rx; cases ry
  obtain ⟨vs, h1, r1⟩ := rm _ _ ha
  obtain ⟨ws, h2, r2⟩ := rm _ _ hb
  obtain ⟨_, g1⟩ := Dp.reads I (.list (rowsPy xss)) (.ref a) (.ref a) (.lst (.inl (.inl h1)) (rows_dp rm _ _ _ hx r1)) rfl
  obtain ⟨_, g2⟩ := Dp.reads I (.list (rowsPy yss)) (.ref b) (.ref b) (.lst (.inl (.inl h2)) (rows_dp rm _ _ _ hy r2)) rfl
  exact PySem.SeqAt.ne_plain g1 g2 (by rw [PyData.plain]; exact rows_plain _ _ hx) (by rw [PyData.plain]; exact rows_plain _ _ hy) (by rw [PyData.depth, PyData.depth]; omega) (fin_b I rm po q (by rw [xor_t, PyData.eqv]))⟩
end

/-! ### a def that calls itself: nothing is promised at depth 0 -/
section
variable {P : Program} {w : World} {K : PySem.W.Frag} {mg : Str → Option Value} {base : Heap} {x qual : Str} {params : Arguments} {body : List Stmt} {scope : Scope} {f : Addr} {fd : FuncData} {ps : List Str} {k : Nat} {r : WN}
theorem cal_none (F : FunD K x qual params body scope [] [] f fd) (hm : mg x = some (.ref f)) (bd : Binds K fd ps []) (no : ∀ ds M Q, ¬ r.f ds M Q) : Cal P w K mg base k x r :=
  ⟨f, fd, ps, ⟨fun _ _ _ _ h => let ⟨_, _, _, _, _, q, _⟩ := h; (no _ _ _ q).elim, fun _ _ _ _ _ _ _ _ _ _ _ _ _ h => let ⟨_, _, _, _, _, q, _⟩ := h; (no _ _ _ q).elim⟩, hm, F.kp, bd⟩
def rNone : WN := ⟨fun _ _ _ => False, fun _ _ _ _ _ h => h⟩
end
end MP

namespace MP
open PySem PySem.Spec PyProof.Rows L2
/-- a def that lays what it likes beside what stands; g tells what the end's memory holds -/
def nBes (C : List D → Mem → Prop) (g : List D → Mem → D → Mem → Prop) : WN := ⟨fun ds M Q => C ds M ∧ ∀ d M', Sub M M' → g ds M d M' → Q d M', fun _ _ _ _ h q => ⟨q.1, fun d M' s hd => h _ _ (q.2 d M' s hd)⟩⟩
theorem e_nBes (C : List D → Mem → Prop) (g : List D → Mem → D → Mem → Prop) (ds : List D) (M : Mem) (Q : D → Mem → Prop) : (nBes C g).f ds M Q = (C ds M ∧ ∀ d M', Sub M M' → g ds M d M' → Q d M') := rfl
theorem Vw.same {P : Program} {w : World} {K : PySem.W.Frag} {M : Mem} : Vw P w K M M := ⟨fun _ h => h, fun _ h => h⟩
theorem law_bes {n k : Nat} {b : WS} {C : List D → Mem → Prop} {g : List D → Mem → D → Mem → Prop} (h : ∀ ds M, Cons M → C ds M → ds.length = k ∧ ∀ R : D → Mem → Prop, (∀ d M', g ds M d M' → Sub M M' → R d M') → b.f (rtE R) (startD n ds) M)
    (hn : ∀ ds M M', ¬ g ds M .non M') : FnLaw n k b (nBes C g) := fun P w K H ds M Q rm ⟨c, q⟩ => by
  obtain ⟨h1, h2⟩ := h ds M rm.cons c
  refine ⟨h1, M, rm, fun _ z => z, b.mono (rtE fun d M' => g ds M d M' ∧ Sub M M') _ _ _ ⟨fun _ M' z => (hn _ _ _ z.1).elim, fun d M' z => ⟨M', Vw.same, q d M' z.2 z.1⟩, fun _ _ z => z, fun _ _ z => z⟩ (h2 _ fun d M' a s => ⟨a, s⟩)⟩

local macro_rules | `(tactic| walk_at "mp1") => `(tactic| simp only [e_wVar, e_wC, e_wOp, e_wUn, e_aNil, e_aCons, e_wCB, e_wCK, e_wTup, e_wLst, e_wtB, e_wtV, e_wtNot, e_wtAnd, e_wtOr, e_wAnd, e_wOr, e_wNot, e_wIf, e_wChain, e_wSl, e_oNone, e_oSome, e_wBM, e_wLc, e_wLc2, e_wDc, e_wtYes, e_sNil, e_sSeq, e_sBreak, e_sCont, e_sDrop, e_sRet, e_sRetN, e_sIf, e_sAsg, e_sPar, e_sAug, e_sFor, e_gN, e_gsNil, e_gsCons, e_gT, e_gSubD, e_iSeq, e_iR1, e_iR2, e_iEnumL, e_iZipW, e_mAppend, e_mExtend, e_mIndex, e_nLen, e_nTuple, e_nList, e_nBls, e_rIx, e_nSorted, e_nBest, e_kBestD, e_rAdd_int, e_rAdd_tup, e_rAdd_str, e_rAdd_ref, e_rSub_int, e_rMulA_int, e_rMulA_tup, e_rMulA_ref, e_rFdiv_int, e_rMod_int, e_rPow_int, e_rLe_int, e_rGt_int, e_rGe_int, e_rLt_int, e_rLt_tup, e_rEqn_int, e_rEqn_str, e_rEqn_bl, e_rEqn_tup, e_rEqn_ref, e_rIsn_non, e_rIsn_bl, e_rInn_tup, e_rNeg_int, e_ix_tup, e_ix_fl, len_tup, len_fl, items_tup, items_fl, iseq_tup, iseq_fl, e_nInt_int, e_nInt_bl, e_nInt1_int, e_nInt2_int, e_nIsi_2, e_r2F, e_tru_bl, e_tru_int, e_tru_tup, tn_int, tn_bl, tn_str, tn_non, tn_tup, tn_fl, kb_int_int, kb_int_bool, kb_int_str, kb_int_tuple, kb_int_list, kb_bool_int, kb_bool_bool, kb_bool_str, kb_bool_tuple, kb_bool_list, kb_str_int, kb_str_bool, kb_str_str, kb_str_tuple, kb_str_list, kb_NoneType_int, kb_NoneType_bool, kb_NoneType_str, kb_NoneType_tuple, kb_NoneType_list, kb_tuple_int, kb_tuple_bool, kb_tuple_str, kb_tuple_tuple, kb_tuple_list, kb_list_int, kb_list_bool, kb_list_str, kb_list_tuple, kb_list_list, s_at0, s_at1, s_at2, s_at3, s_at4, s_ex2, startD, List.map_cons, List.map_nil, List.length_cons, List.length_nil, List.replicate_succ, List.replicate_zero, List.cons_append, List.nil_append, List.append_nil, Nat.sub_self, Nat.reduceAdd, Nat.reduceSub, List.getElem?_cons_zero, List.getElem?_cons_succ, List.getElem?_nil, Option.some.injEq, reduceCtorEq, false_and, and_false, exists_false, exists_eq_left', exists_and_left, exists_and_right, exists_eq_right, D.int.injEq, D.bl.injEq, D.str.injEq, D.tup.injEq, D.ref.injEq, D.ty.injEq, List.cons.injEq, and_self, true_and, and_true, exists_eq_left, List.set_cons_zero, List.set_cons_succ, wipeD, forall_const, if_true, false_implies, true_implies, implies_true, Bool.false_eq_true, Bool.true_eq_false, eq_self_iff_true, xor_f, xor_t, Bool.not_true, Bool.not_false, decide_eq_true_eq, decide_eq_false_iff_not])
local macro_rules | `(tactic| walk_at "mp") => `(tactic| (try dsimp only); (try walk_at "mp1"))
local macro_rules | `(tactic| walk_at "cm") => `(tactic| first | exact cmul_r ⟨by decide, by decide⟩ | exact cmul_l ⟨by decide, by decide⟩ | exact cmul_r ⟨by omega, by omega⟩ | exact cmul_l ⟨by omega, by omega⟩)
def w__law_is : WS :=
    sSeq (sIf (wtV (wVar 1)) (sRet (wOp rIs (wVar 0) (wC (.bl true)))) (sNil))
    (sRet (wOp rIs (wVar 0) (wC (.bl false))))
def r__law_is : WN := nSome (fun ds _ => ∃ a b : Bool, ds = [.bl a, .bl b]) fun ds _ d => ∀ a b : Bool, ds = [.bl a, .bl b] → d = .bl (a == b)
theorem is_at {a b : Bool} {M : Mem} {Q : D → Mem → Prop} : r__law_is.f [.bl a, .bl b] M Q = Q (.bl (a == b)) M := propext ⟨fun ⟨_, q⟩ => q _ fun a' b' e => by simp only [List.cons.injEq, D.bl.injEq, and_true] at e; rw [e.1, e.2], fun q => ⟨⟨a, b, rfl⟩, fun d hd => by rw [hd a b rfl]; exact q⟩⟩
theorem law__law_is : FnLaw 2 2 w__law_is r__law_is := law_some fun ds M cn ⟨a, b, e⟩ => by
  subst e
  refine ⟨rfl, ?_⟩
  intro R mkR
  have mkR : ∀ c M', c = (a == b) → Sub M M' → R (.bl c) M' := fun c M' e s => mkR _ _ (fun a' b' e' => by simp only [List.cons.injEq, D.bl.injEq, and_true] at e'; rw [e, e'.1, e'.2]) s
  unfold w__law_is rtE
  walk_at "mp"
  refine ⟨fun h => mkR _ _ ?_ Sub.refl, fun h => mkR _ _ ?_ Sub.refl⟩
  · subst h; cases a <;> decide
  · subst h; cases a <;> decide
def w__law_equal (rr : WN) : WS :=
    sSeq (sIf (wtOr (wtB (wOp rNe (wCB r__law_kind (aCons (wVar 0) (aNil))) (wCB r__law_kind (aCons (wVar 1) (aNil))))) (wtB (wOp rEq (wCB r__law_kind (aCons (wVar 0) (aNil))) (wC (.int 0))))) (sRet (wC (.bl false))) (sNil))
    (sSeq (sIf (wtOr (wtB (wCB nIsi (aCons (wVar 1) (aCons (wC (.ty "tuple")) (aNil))))) (wtB (wCB nIsi (aCons (wVar 1) (aCons (wC (.ty "list")) (aNil)))))) (sSeq (sIf (wtB (wOp rNe (wCB nLen (aCons (wVar 0) (aNil))) (wCB nLen (aCons (wVar 1) (aNil))))) (sRet (wC (.bl false))) (sNil))
    (sSeq (sFor (iR1 (aCons (wCB nLen (aCons (wVar 1) (aNil))) (aNil))) (gN 2) (sIf (wtNot (wtB (wCB rr (aCons (wOp rIx (wVar 0) (wVar 2)) (aCons (wOp rIx (wVar 1) (wVar 2)) (aNil)))))) (sRet (wC (.bl false))) (sNil)))
    (sRet (wC (.bl true))))) (sNil))
    (sRet (wOp rEq (wVar 0) (wVar 1))))
mutual
/-- data without objects that change -/
def D.da : D → Bool
  | .non => true
  | .bl _ => true
  | .int _ => true
  | .str _ => true
  | .tup xs => decide (xs.length ≤ 1000000) && D.das xs
  | _ => false
def D.das : List D → Bool
  | [] => true
  | x :: xs => D.da x && D.das xs
end
theorem das_mem : ∀ {xs : List D} {x : D}, D.das xs = true → x ∈ xs → x.da = true
  | y :: ys, x, h, hx => by
    simp only [D.das, Bool.and_eq_true] at h
    rcases List.mem_cons.mp hx with rfl | hx
    · exact h.1
    · exact das_mem h.2 hx
def eqvM (M : Mem) (x y : D) : Prop := match x, y with
  | .ref a, .ref b => M a = M b
  | x, y => x = y
def EqOk (n : Nat) (M : Mem) (x y : D) : Prop := (x.da = true ∧ y.da = true ∧ x.dep ≤ n) ∨ ∃ a b xs ys, x = .ref a ∧ y = .ref b ∧ M a = some (.lst xs) ∧ M b = some (.lst ys) ∧ D.das xs = true ∧ D.das ys = true ∧ D.deps xs + 1 ≤ n ∧ ys.length ≤ 1000000
def rr__law_equal : Nat → WN
  | 0 => rNone
  | n + 1 => nSome (fun ds M => ∃ x y, ds = [x, y] ∧ EqOk n M x y) fun ds M d => ∀ x y, ds = [x, y] → (eqvM M x y → d = .bl true) ∧ (¬ eqvM M x y → d = .bl false)
theorem rr0__law_equal : ∀ ds M Q, ¬ (rr__law_equal 0).f ds M Q := fun _ _ _ h => h
theorem equal_at {n : Nat} {x y : D} {M : Mem} {Q : D → Mem → Prop} (h : EqOk n M x y) (q1 : eqvM M x y → Q (.bl true) M) (q2 : ¬ eqvM M x y → Q (.bl false) M) : (rr__law_equal (n + 1)).f [x, y] M Q :=
  ⟨⟨x, y, rfl, h⟩, fun d hd => by
    by_cases e : eqvM M x y
    · rw [(hd x y rfl).1 e]; exact q1 e
    · rw [(hd x y rfl).2 e]; exact q2 e⟩
theorem deps_mem : ∀ {xs : List D} {x : D}, x ∈ xs → x.dep ≤ D.deps xs
  | y :: ys, x, hx => by
    have e : D.deps (y :: ys) = max y.dep (D.deps ys) := by simp [D.deps, D.dep, D.pys, PyData.depthAll]
    rcases List.mem_cons.mp hx with rfl | hx
    · rw [e]; omega
    · have := deps_mem hx; rw [e]; omega
theorem eqv_da {M : Mem} {x y : D} (h : x.da = true) : eqvM M x y ↔ x = y := by
  cases x <;> cases y <;> simp [D.da] at h <;> simp [eqvM]
theorem law__law_equal (n : Nat) : FnLaw 3 2 (w__law_equal (rr__law_equal n)) (rr__law_equal (n + 1)) := law_some fun ds M cn ⟨x, y, e, ok⟩ => by
  subst e
  refine ⟨rfl, ?_⟩
  intro R mkR
  have yes : eqvM M x y → R (.bl true) M := fun h => mkR _ _ (fun x' y' e => by simp only [List.cons.injEq, and_true] at e; obtain ⟨rfl, rfl⟩ := e; exact ⟨fun _ => rfl, fun z => absurd h z⟩) Sub.refl
  have no : ¬ eqvM M x y → R (.bl false) M := fun h => mkR _ _ (fun x' y' e => by simp only [List.cons.injEq, and_true] at e; obtain ⟨rfl, rfl⟩ := e; exact ⟨fun z => absurd z h, fun _ => rfl⟩) Sub.refl
  clear mkR
  unfold w__law_equal rtE
  have rows : ∀ (xs ys : List D), (∀ Q, lenF x M Q = Q xs.length) → (∀ Q, lenF y M Q = Q ys.length) → (∀ (k : Nat) Q, ixF x (.int k) M Q = ∃ d, atI xs k = some d ∧ Q d) → (∀ (k : Nat) Q, ixF y (.int k) M Q = ∃ d, atI ys k = some d ∧ Q d) →
      D.das xs = true → D.das ys = true → D.deps xs + 1 ≤ n → ys.length ≤ 1000000 → (eqvM M x y ↔ xs = ys) → ∀ A : DEn, A.nx = (fun ρ M' => (sRet (wC (D.bl true))).f { nx := fun ρ M' => (sRet (wOp rEq (wVar 0) (wVar 1))).f { nx := fun x M' => R D.non M', rt := R } ρ M', rt := R } ρ M') → A.rt = R →
      (((!decide (((xs.length : Nat) : Int) = ((ys.length : Nat) : Int))) = true → R (D.bl false) M) ∧ ((!decide (((xs.length : Nat) : Int) = ((ys.length : Nat) : Int))) = false → ((ys.length : Nat) : Int) < 2 ^ 62 ∧ -2 ^ 62 ≤ ((ys.length : Nat) : Int) ∧
        loopF (gN 2) (sIf (wtNot (wtB (wCB (rr__law_equal n) (aCons (wOp rIx (wVar 0) (wVar 2)) (aCons (wOp rIx (wVar 1) (wVar 2)) aNil))))) (sRet (wC (D.bl false))) sNil) (fun x => True) A (rngD 0 (((ys.length : Nat) : Int)).toNat) [some x, some y, none] M)) := by
    intro xs ys LX LY IX IY dx dy hd hl heq A hA hR
    refine ⟨fun h => no fun e => ?_, fun h => ⟨by omega, by omega, ?_⟩⟩
    · rw [heq.mp e] at h; simp at h
    have hlen : xs.length = ys.length := by simp at h; omega
    obtain ⟨m, rfl⟩ : ∃ m, n = m + 1 := ⟨n - 1, by omega⟩
    refine loop_rng (lo := 0) (n := (((ys.length : Nat) : Int)).toNat) (fun i ρ M1 => ∃ x2, ρ = [some x, some y, x2] ∧ M1 = M ∧ ∀ j : Nat, j < i → xs[j]? = ys[j]?) ?step ?fin _ _ ⟨none, rfl, rfl, fun j hj => by omega⟩
    case fin =>
      rintro ρ M1 ⟨x2, rfl, rfl, h⟩
      rw [hA]
      walk_at "mp"
      refine yes (heq.mpr (List.ext_getElem? fun j => ?_))
      by_cases hj : j < ys.length
      · exact h j (by omega)
      · rw [List.getElem?_eq_none (by omega), List.getElem?_eq_none (by omega)]
    case step =>
      rintro I mk i ρ M1 hi ⟨x2, rfl, rfl, h⟩
      have hi2 : i < ys.length := by omega
      walk_at "mp"
      rw [show (0 + (i : Int)) = ((i : Nat) : Int) by omega]
      simp only [IX, IY]
      refine ⟨_, atI_nat (List.getElem?_eq_getElem (by omega)), _, atI_nat (List.getElem?_eq_getElem hi2), ?_⟩
      have mx : xs[i] ∈ xs := List.getElem_mem _
      have my : ys[i] ∈ ys := List.getElem_mem _
      have da := das_mem dx mx
      refine equal_at (.inl ⟨da, das_mem dy my, by have := deps_mem mx; omega⟩) (fun e => ?_) (fun e => ?_)
      · walk_at "mp"
        refine mk _ _ _ ⟨_, rfl, rfl, fun j hj => ?_⟩
        by_cases hj2 : j = i
        · subst hj2
          rw [List.getElem?_eq_getElem (by omega), List.getElem?_eq_getElem hi2, (eqv_da da).mp e]
        · exact h j (by omega)
      · walk_at "mp"
        rw [hR]
        refine no fun z => e ((eqv_da da).mpr ?_)
        have := heq.mp z
        subst this; rfl
  rcases ok with ⟨dx, dy, hx⟩ | ⟨a, b, xs, ys, rfl, rfl, ha, hb, dx, dy, hx, hl⟩
  · have at1 : ∀ d : D, d.da = true → hasTy d M := fun d h => by cases d <;> simp [D.da] at h <;> exact ⟨_, rfl, by simp⟩
    walk_at "mp"
    simp only [kind_at, at1 x dx, at1 y dy, true_and]
    walk_at "mp"
    simp only [kind_at, at1 x dx, at1 y dy, true_and]
    walk_at "mp"
    refine ⟨fun h => no fun e => ?_, fun h => ⟨fun h0 => ?_, fun h0 => ?_⟩⟩
    · rw [(eqv_da dx).mp e] at h; simp at h
    · cases x <;> simp [D.da] at dx <;> simp [kindD, tyName, kindN] at h0
    have hk : kindD x M = kindD y M := by simpa using h
    cases x <;> cases y <;> simp [D.da] at dx dy <;> simp [kindD, tyName, kindN] at hk <;> walk_at "mp"
    · have e : rEq.f D.non D.non M R = ((D.non).pl ∧ (D.non).pl ∧ min (D.non).dep (D.non).dep ≤ 60 ∧ R (.bl (xor false (eqD .non .non))) M) := rfl
      rw [e]
      exact ⟨rfl, rfl, by decide, yes rfl⟩
    · rename_i p q _
      by_cases e : p = q
      · subst e; rw [beq_self_eq_true]; exact yes rfl
      · rw [beq_eq_false_iff_ne.mpr e]; exact no fun z => e (by simpa [eqvM] using z)
    · rename_i p q _
      by_cases e : p = q
      · subst e; rw [decide_eq_true rfl]; exact yes rfl
      · rw [decide_eq_false e]; exact no fun z => e (by simpa [eqvM] using z)
    · rename_i p q _
      by_cases e : p = q
      · subst e; rw [decide_eq_true rfl]; exact yes rfl
      · rw [decide_eq_false e]; exact no fun z => e (by simpa [eqvM] using z)
    · rename_i p q _
      have hd : D.deps p + 1 ≤ n := by have e : (D.tup p).dep = D.deps p + 1 := dep_tup p
                                       omega
      exact rows p q (fun Q => rfl) (fun Q => rfl) (fun k Q => e_ix_tup ..) (fun k Q => e_ix_tup ..) dx.2 dy.2 hd dy.1 (by simp [eqvM]) _ rfl rfl
  · walk_at "mp"
    have ka : kindD (.ref a) M = 5 := by simp [kindD, tn_lst ha, kindN]
    have kb : kindD (.ref b) M = 5 := by simp [kindD, tn_lst hb, kindN]
    have hta : hasTy (.ref a) M := ⟨_, tn_lst ha, by simp⟩
    have htb : hasTy (.ref b) M := ⟨_, tn_lst hb, by simp⟩
    simp only [kind_at, ka, kb, hta, htb]
    walk_at "mp"
    simp only [kind_at, ka, kb, hta, htb, tn_lst hb]
    walk_at "mp"
    refine ⟨fun h => by simp at h, fun _ => ⟨fun h => by simp at h, fun _ => ?_⟩⟩
    simp only [len_lst ha, len_lst hb]
    exact rows xs ys (fun Q => len_lst ha) (fun Q => len_lst hb) (fun k Q => ix_lst ha) (fun k Q => ix_lst hb) dx dy hx hl (by simp [eqvM, ha, hb]) _ rfl rfl
end MP

namespace MP
open PySem PySem.Spec PyProof.Rows L2
theorem e_wDn (wi : WI) (g : WG) (tt : WT) (tk te : WE) (vs : List Nat) (ρ : Sl) (M : Mem) (Q : D → Mem → Prop) : (wDn wi g tt tk te vs).f ρ M Q = (wi.f ρ M fun items stay M1 => dnF g tt tk te stay (wipeD ρ vs) Q items [] M1) := rfl
theorem e_wRev (e : WE) (ρ : Sl) (M : Mem) (Q : D → Mem → Prop) : (wRev e).f ρ M Q = (e.f ρ M fun d M1 => revF d M1 Q) := rfl
theorem e_revF_tup (xs : List D) (M : Mem) (Q : D → Mem → Prop) : revF (.tup xs) M Q = Q (.tup xs.reverse) M := rfl
/-- what a dict's entry is behind a store -/
theorem dget_at (kvs : List (D × D)) (d x e : D) : dgetD (dputD kvs d x) e = if d.key = e.key then some x else dgetD kvs e := by
  unfold dputD
  split
  · next h =>
    unfold dgetD
    induction kvs with
    | nil => simp at h
    | cons p r ih =>
      rw [List.map_cons, List.find?_cons, List.find?_cons]
      by_cases hp : p.1.key = d.key
      · rw [if_pos hp]
        by_cases he : d.key = e.key
        · have e1 : decide (p.1.key = e.key) = true := decide_eq_true (hp.trans he)
          simp only [e1, if_pos he]; rfl
        · have e1 : decide (p.1.key = e.key) = false := decide_eq_false fun z => he (hp.symm.trans z)
          simp only [e1, if_neg he]
          by_cases hr : (r.any fun p => decide (p.1.key = d.key)) = true
          · have := ih hr; rw [if_neg he] at this; exact this
          · congr 2
            have hr' : ∀ q ∈ r, q.1.key ≠ d.key := fun q hq z => hr (List.any_eq_true.mpr ⟨q, hq, decide_eq_true z⟩)
            refine List.ext_getElem? fun i => ?_
            rw [List.getElem?_map]
            cases hi : r[i]? with
            | none => rfl
            | some q => rw [Option.map_some, if_neg (hr' q (List.mem_of_getElem? hi))]
      · rw [if_neg hp]
        rw [List.any_cons, decide_eq_false hp, Bool.false_or] at h
        by_cases he : d.key = e.key
        · have e1 : decide (p.1.key = e.key) = false := decide_eq_false fun z => hp (z.trans he.symm)
          simp only [e1]
          exact ih h
        · by_cases e2 : p.1.key = e.key
          · simp only [decide_eq_true e2, if_neg he]
          · simp only [decide_eq_false e2]
            exact ih h
  · next h =>
    have hr' : ∀ q ∈ kvs, q.1.key ≠ d.key := fun q hq z => h (List.any_eq_true.mpr ⟨q, hq, decide_eq_true z⟩)
    unfold dgetD
    rw [List.find?_append]
    by_cases he : d.key = e.key
    · have : kvs.find? (fun p => decide (p.1.key = e.key)) = none := List.find?_eq_none.mpr fun q hq z => hr' q hq ((of_decide_eq_true z).trans he.symm)
      rw [this, if_pos he]
      simp [he]
    · rw [if_neg he]
      have : [(d, x)].find? (fun p : D × D => decide (p.1.key = e.key)) = none := by simp [he]
      rw [this, Option.or_none]
/-- the turns of a dict comprehension, without a test -/
theorem dn_inv {g : WG} {tk te : WE} {stay : Mem → Prop} {ρ : Sl} {Q : D → Mem → Prop} (Iv : Nat → List (D × D) → Mem → Prop) (items : List D)
    (step : ∀ (J : List (D × D) → Mem → Prop), ∀ i x, items[i]? = some x → ∀ acc M, Iv i acc M → (∀ k v M', keyOk acc k → acc.length < sizeLine → Iv (i + 1) (dputD acc k v) M' → J (dputD acc k v) M') → stay M ∧ g.f x ρ M fun ρ2 M2 => tk.f ρ2 M2 fun k M3 => te.f ρ2 M3 fun v M4 => keyOk acc k ∧ acc.length < sizeLine ∧ J (dputD acc k v) M4)
    (fin : ∀ acc M, Iv items.length acc M → stay M ∧ ∀ q, M q = none → Q (.ref q) (mupd M q (.dic acc))) (M : Mem) (h : Iv 0 [] M) : dnF g wtYes tk te stay ρ Q items [] M := by
  have go : ∀ (n i : Nat) (acc : List (D × D)) (M : Mem), i + n = items.length → Iv i acc M → dnF g wtYes tk te stay ρ Q (items.drop i) acc M := by
    intro n
    induction n with
    | zero =>
      intro i acc M e h
      rw [List.drop_of_length_le (by omega)]
      have : i = items.length := by omega
      subst this
      exact fin acc M h
    | succ n ih =>
      intro i acc M e h
      have hi : i < items.length := by omega
      rw [List.drop_eq_getElem_cons hi]
      obtain ⟨h1, h2⟩ := step (fun acc M => dnF g wtYes tk te stay ρ Q (items.drop (i + 1)) acc M) i _ (List.getElem?_eq_getElem hi) acc M h fun k v M' _ _ z => ih (i + 1) _ M' (by omega) z
      exact ⟨h1, g.mono _ _ _ _ _ (fun ρ2 M2 q => ⟨fun _ => q, fun z => by cases z⟩) h2⟩
  have := go items.length 0 [] M (by omega) h
  rwa [List.drop_zero] at this
end MP

namespace MP
open PySem PySem.Spec PyProof.Rows L2

/-! ### dict comprehensions of two clauses -/
/-- one turn of any clause: k is what a turn does that meets the tests -/
def clTurn (t : Expr) (p : Pos) (ifs : List Expr) (it : Value) (env : Env) (k : Sem PySem.Fin) (c : Code) : Sem PySem.Fin := do
  standAt p
  match ← pyNext it with
  | none => pure (.done .next)
  | some v =>
    letOwnedTupleGo t it v
    assign t env v
    let mut ok := true
    for c in ifs do
      if ok then ok ← isTrue c env (eval c env)
    if ok then k else again c
def dc2 (kx vx t0 i0 : Expr) (ifs0 : List Expr) (t1 i1 : Expr) (ifs1 : List Expr) (scope : Scope) (pos : Pos) : Expr := .DictComp kx vx [⟨t0, i0, ifs0, 0⟩, ⟨t1, i1, ifs1, 0⟩] scope pos
section
variable {kx vx t0 i0 t1 i1 : Expr} {ifs0 ifs1 : List Expr} {scope : Scope} {pos : Pos}
def k2Out (kx vx t0 i0 : Expr) (ifs0 : List Expr) (t1 i1 : Expr) (ifs1 : List Expr) (scope : Scope) (pos : Pos) (it acc : Value) (env : Env) : Sem PySem.Fin := do
  let x ← eval i1 env
  standAt i1.pos
  let x ← foldedSetIterable i1 env x
  let _ ← runOwn (.compStart (dc2 kx vx t0 i0 ifs0 t1 i1 ifs1 scope pos) 1 (← holding [x] (pyIter x)) acc env) env
  again (.compLoop (dc2 kx vx t0 i0 ifs0 t1 i1 ifs1 scope pos) 0 it acc env)
def k2In (kx vx t0 i0 : Expr) (ifs0 : List Expr) (t1 i1 : Expr) (ifs1 : List Expr) (scope : Scope) (pos : Pos) (it : Value) (D : Addr) (env : Env) : Sem PySem.Fin := do
  (do
    let kv ← eval kx env
    let vv ← holding [kv] (eval vx env)
    standAt { kx.pos with endLine := vx.pos.endLine, endCol := vx.pos.endCol }
    holding [kv, vv] (dictSet D kv vv))
  again (.compLoop (dc2 kx vx t0 i0 ifs0 t1 i1 ifs1 scope pos) 1 it (.ref D) env)
theorem ct_out (it acc : Value) (env : Env) : compTurn (dc2 kx vx t0 i0 ifs0 t1 i1 ifs1 scope pos) 0 it acc env = clTurn t0 i0.pos ifs0 it env (k2Out kx vx t0 i0 ifs0 t1 i1 ifs1 scope pos it acc env) (.compLoop (dc2 kx vx t0 i0 ifs0 t1 i1 ifs1 scope pos) 0 it acc env) := by rfl
theorem ct_in (it : Value) (D : Addr) (env : Env) : compTurn (dc2 kx vx t0 i0 ifs0 t1 i1 ifs1 scope pos) 1 it (.ref D) env = clTurn t1 i1.pos ifs1 it env (k2In kx vx t0 i0 ifs0 t1 i1 ifs1 scope pos it D env) (.compLoop (dc2 kx vx t0 i0 ifs0 t1 i1 ifs1 scope pos) 1 it (.ref D) env) := by rfl
end
/-- the loop of a clause -/
theorem cl_loop {prog : Program} {w : World} {A : Around} {R : Result → Shared → Prop} {s : Shared} {kx vx t : Expr} {gens : List Comprehension} {scope : Scope} {pos : Pos} {depth : Nat} {p : Pos} {ifs : List Expr} {it acc : Value} {env : Env} {k : Sem PySem.Fin} (I : Nat → Shared → Prop)
    (ct : compTurn (.DictComp kx vx gens scope pos) depth it acc env = clTurn t p ifs it env k (.compLoop (.DictComp kx vx gens scope pos) depth it acc env))
    (turn : ∀ n s, I n s → wpAny (model prog w) A (pyNext it) (fun r s1 => match r with
      | none => R (.ok .next) s1
      | some v => wpAny (model prog w) A (letOwnedTupleGo t it v) (fun _ s2 => wpAny (model prog w) A (assign t env v) (fun _ s3 =>
          wpAny (model prog w) A (forIn ifs true fun c r => if r = true then do let ok ← isTrue c env (eval c env); pure (ForInStep.yield ok) else pure (ForInStep.yield r)) (fun ok s4 =>
            (ok = true → wpAny (model prog w) A k (fun f s5 => f = .again (.compLoop (.DictComp kx vx gens scope pos) depth it acc env) ∧ ∃ m, m < n ∧ I m s5) (fun _ _ => False) s4) ∧ (ok = false → ∃ m, m < n ∧ I m s4)) (fun _ _ => False) s3) (fun _ _ => False) s2) (fun _ _ => False) s1) (fun _ _ => False) s)
    (n : Nat) (h : I n s) : codeAny (model prog w) A (.compLoop (.DictComp kx vx gens scope pos) depth it acc env) R s := by
  have no : ∀ {α : Type} {t : Sem α} {Q Q' : α → Shared → Prop} {s : Shared} {E : Value → Shared → Prop}, wpAny (model prog w) A t Q (fun _ _ => False) s → (∀ a s, Q a s → Q' a s) → wpAny (model prog w) A t Q' E s := fun h g => wpAny_mono h g fun _ _ z => z.elim
  refine codeAny_loop rfl I (fun n s hI => ?_) n h
  show wpAny _ A ((compTurn (.DictComp kx vx gens scope pos) depth it acc env).onRaise fun x => do noteFrame x env; theTreesLotGoes x) _ _ s
  refine wpAny_noted ?_
  rw [ct]
  unfold clTurn
  refine wpAny_bind (wpAny_standAt (wpAny_bind (no (turn n s hI) fun r s1 h1 => ?_)))
  cases r with
  | none => exact wpAny_pure h1
  | some v =>
    refine wpAny_bind (no h1 fun _ s2 h2 => wpAny_bind (no h2 fun _ s3 h3 => wpAny_bind (no h3 fun ok s4 h4 => ?_)))
    cases ok with
    | false => exact wpAny_pure ⟨rfl, h4.2 rfl⟩
    | true => exact no (h4.1 rfl) fun f s5 ⟨ef, h5⟩ => by subst ef; exact ⟨rfl, h5⟩
theorem unpin2 {B : Cx} {pins : List (Addr × Obj)} {fp : List Addr} {it : Addr} {tg : Expr} {J : It} {tid : Nat → Heap → Prop} (T : Turn B.prog B.w B.K tg J fp it tid) {σ : L2.St} {H : Hp} {s s' : Shared} {i : Nat} (t : tid i s.heap) (I : Inv B (pins ++ pinsAt fp s.heap) σ H s') :
    tid i s'.heap ∧ ∀ b ∈ fp, H b = none := by
  have p : ∀ b ∈ fp, ∀ o, s.heap.get? b = some o → s'.heap.get? b = some o ∧ H b = none := fun b hb o e => by
    have z := I.pin (b, o) (by simp [mem_pinsAt hb e])
    exact ⟨z.1, z.2.1⟩
  refine ⟨T.keep _ _ _ t fun b hb o e => (p b hb o e).1, fun b hb => ?_⟩
  obtain ⟨o, e, _⟩ := T.obj _ _ t b hb
  exact (p b hb o e).2
/-- the slots of a block's start are still known -/
def Known (σ σ' : L2.St) : Prop := σ.length = σ'.length ∧ ∀ (j : Nat) v, σ[j]? = some (some v) → σ'[j]? = some (some v)
/-- the turns of a clause: c what the turns hold -/
theorem cl_turns {γ : Type} {B : Cx} {pins : List (Addr × Obj)} {fp : List Addr} {it : Addr} {kx vx tg : Expr} {gens : List Comprehension} {scope : Scope} {pos : Pos} {depth : Nat} {p : Pos} {ifs : List Expr} {acc0 : Value} {k : Sem PySem.Fin} {J : It} {tid : Nat → Heap → Prop} {g : WG} {tt : WT} {items : List D} {stay : Mem → Prop} {R : Result → Shared → Prop} {σ0 : L2.St} {ρ0 : Sl} {Hb : Hp}
    (Fr : γ → Hp → Mem → Prop) (F : Nat → γ → Mem → Prop) (T1 : Nat → γ → Sl → Mem → Prop) (hc : B.calm = true) (hx : B.xe = fun _ _ => False) (T : Turn B.prog B.w B.K tg J fp it tid) (hg : DG B tg g) (ht : DTs B ifs tt)
    (ct : compTurn (.DictComp kx vx gens scope pos) depth (.ref it) acc0 B.env = clTurn tg p ifs (.ref it) B.env k (.compLoop (.DictComp kx vx gens scope pos) depth (.ref it) acc0 B.env))
    (off : ∀ {σ : L2.St} {H : Hp} {s : Shared}, Inv B pins σ H s → (∀ b ∈ fp, H b = none) → ∀ b ∈ fp, FpOk B pins H b)
    (fr : ∀ {c : γ} {H : Hp} {M : Mem}, Fr c H M → RelM B.prog B.w B.K H M ∧ RelS B.K H ρ0 σ0 ∧ Keep Hb H)
    (on : ∀ {c : γ} {H : Hp} {M : Mem} {H' : Hp} {M' : Mem}, Fr c H M → Step H M H' M' → RelM B.prog B.w B.K H' M' → Fr c H' M') (ok : ItOk B.prog B.w B.K J items stay Hb)
    (fF : ∀ {i : Nat} {c : γ} {M : Mem}, F i c M → stay M ∧ ∀ d, items[i]? = some d → g.f d ρ0 M fun ρ2 M2 => tt.f ρ2 M2 fun b M3 => (b = true → T1 i c ρ2 M3) ∧ (b = false → F (i + 1) c M3))
    (kn : ∀ {σ' : L2.St}, SlSame σ0 σ' g.sl → Known σ0 σ')
    (act : ∀ {pins' : List (Addr × Obj)} {i : Nat} {c : γ} {σ' : L2.St} {ρ' : Sl} {H : Hp} {M : Mem} {s : Shared}, Inv B pins' σ' H s → SlSame σ0 σ' g.sl → RelS B.K H ρ' σ' → Fr c H M → T1 i c ρ' M →
      wpAny (model B.prog B.w) B.A k (fun f s' => f = .again (.compLoop (.DictComp kx vx gens scope pos) depth (.ref it) acc0 B.env) ∧ ∃ σ'' H' M' c', Inv B pins' σ'' H' s' ∧ Known σ0 σ'' ∧ Fr c' H' M' ∧ F (i + 1) c' M') (fun _ _ => False) s)
    (done : ∀ {c : γ} {H : Hp} {M : Mem} {s : Shared}, Inv B pins σ0 H s → Fr c H M → F items.length c M → R (.ok .next) s)
    {c0 : γ} {H0 : Hp} {M0 : Mem} {s0 : Shared} (I0 : Inv B pins σ0 H0 s0) (t0 : tid 0 s0.heap) (f0 : ∀ b ∈ fp, H0 b = none) (r0 : Fr c0 H0 M0) (q0 : F 0 c0 M0) :
    codeAny (model B.prog B.w) B.A (.compLoop (.DictComp kx vx gens scope pos) depth (.ref it) acc0 B.env) R s0 := by
  refine cl_loop (fun n s => ∃ i H M c, i + n = items.length ∧ Inv B pins σ0 H s ∧ tid i s.heap ∧ (∀ b ∈ fp, H b = none) ∧ Fr c H M ∧ F i c M) ct ?_ items.length ⟨0, H0, M0, c0, by omega, I0, t0, f0, r0, q0⟩
  rintro n s ⟨i, H, M, c, hn, I, t, f, fr1, q⟩
  obtain ⟨rm, rs, kp⟩ := fr fr1
  obtain ⟨sy, qd⟩ := fF q
  have here := ok i H M kp rm sy
  by_cases hi : i < items.length
  · obtain ⟨go, yl⟩ := here.2 _ (List.getElem?_eq_getElem hi)
    refine thnF (T.item B rfl rfl rfl hc i pins s _ H (fun _ _ => False) I (off I f) t go) fun r s2 ⟨u, er, l2⟩ => ?_
    subst er
    refine thnF l2 fun _ s3 ⟨x, H3, I3, r3, y3, t3, f3⟩ => ?_
    obtain ⟨st3, m3, d3⟩ := yl x H3 y3
    have fr3 := on fr1 st3 m3
    have xe : ∀ {α : Type} {t : Sem α} {Q : α → Shared → Prop} {s : Shared}, wpAny (model B.prog B.w) B.A t Q B.xe s → wpAny (model B.prog B.w) B.A t Q (fun _ _ => False) s := fun {α t Q s} h => by rw [hx] at h; exact h
    refine thn (xe (hg.pg.run _ s3 _ H3 x u (fun σ4 H4 => ∃ ρ4 M4, Step H3 M H4 M4 ∧ RelM B.prog B.w B.K H4 M4 ∧ RelS B.K H4 ρ4 σ4 ∧ SlSame σ0 σ4 g.sl ∧ _) (I3.pinned (off I3 f3) (T.obj _ _ t3)) r3
      ⟨_, ρ0, M, _, d3, (fr fr3).2.1, m3, qd _ (List.getElem?_eq_getElem hi), fun σ4 ρ4 H4 M4 st4 m4 r4 same q4 => ⟨ρ4, M4, st4, m4, r4, same, q4⟩⟩)) fun _ s4 ⟨σ4, H4, I4, ρ4, M4, st4, m4, r4, same, q4⟩ => ?_
    refine thn (xe (ht.pts.run _ s4 σ4 H4 (fun b H5 => ∃ M5, Step H4 M4 H5 M5 ∧ RelM B.prog B.w B.K H5 M5 ∧ _) I4 ⟨ρ4, M4, _, r4, m4, q4, fun b H5 M5 st5 m5 q5 => ⟨M5, st5, m5, q5⟩⟩)) fun b s5 ⟨H5, I5, M5, st5, m5, q5⟩ => ?_
    have fr5 := on fr3 (st4.trans st5) m5
    have next : ∀ {σ' : L2.St} {H' : Hp} {M' : Mem} {s' : Shared} {c' : γ}, Inv B (pins ++ pinsAt fp s3.heap) σ' H' s' → Known σ0 σ' → Fr c' H' M' → F (i + 1) c' M' →
        ∃ m, m < n ∧ ∃ i H M c, i + m = items.length ∧ Inv B pins σ0 H s' ∧ tid i s'.heap ∧ (∀ b ∈ fp, H b = none) ∧ Fr c H M ∧ F i c M := fun {σ' H' M' s' c'} I' kn' fr' q' => by
      obtain ⟨t', f'⟩ := unpin2 T t3 I'
      exact ⟨n - 1, by omega, i + 1, H', M', c', by omega, I'.unpinned.weak kn'.1 kn'.2, t', f', fr', q'⟩
    refine ⟨fun hb => ?_, fun hb => next I5 (kn same) fr5 (q5.2 hb)⟩
    exact thn (act I5 same (r4.keep (st5.keep m4)) fr5 (q5.1 hb)) fun f s6 ⟨ef, σ6, H6, M6, c6, I6, k6, fr6, q6⟩ => ⟨ef, next I6 k6 fr6 q6⟩
  · refine thnF (T.done B rfl rfl rfl hc i pins s _ H (fun _ _ => False) I (off I f) t (here.1 (by omega))) fun r s2 ⟨er, I2⟩ => ?_
    subst er
    exact done I2 fr1 (by rw [show items.length = i by omega]; exact q)
def dn2G (g1 : WG) (tt1 : WT) (tk te : WE) (stay : Mem → Prop) (ρ : Sl) (N : List (D × D) → Mem → Prop) : List D → List (D × D) → Mem → Prop
  | [], acc, M => stay M ∧ N acc M
  | x :: xs, acc, M => stay M ∧ g1.f x ρ M fun ρ2 M2 => tt1.f ρ2 M2 fun b M3 => (b = true → tk.f ρ2 M3 fun k M4 => te.f ρ2 M4 fun y M5 => keyOk acc k ∧ acc.length < sizeLine ∧ dn2G g1 tt1 tk te stay ρ N xs (dputD acc k y) M5) ∧ (b = false → dn2G g1 tt1 tk te stay ρ N xs acc M3)
theorem dn2G_mono {g : WG} {tt : WT} {tk te : WE} {stay : Mem → Prop} {ρ : Sl} {N N' : List (D × D) → Mem → Prop} (h : ∀ d M, N d M → N' d M) : ∀ (xs : List D) (acc : List (D × D)) (M : Mem), dn2G g tt tk te stay ρ N xs acc M → dn2G g tt tk te stay ρ N' xs acc M
  | [], _, _, q => ⟨q.1, h _ _ q.2⟩
  | x :: xs, acc, M, q => ⟨q.1, g.mono _ _ _ _ _ (fun ρ2 M2 q => tt.mono _ _ _ _ (fun b M3 q => ⟨fun e => tk.mono _ _ _ _ (fun k M4 q => te.mono _ _ _ _ (fun y M5 q => ⟨q.1, q.2.1, dn2G_mono h xs _ _ q.2.2⟩) q) (q.1 e), fun e => dn2G_mono h xs _ _ (q.2 e)⟩) q) q.2⟩
def dn2F (g : WG) (tt : WT) (wi1 : WI) (g1 : WG) (tt1 : WT) (tk te : WE) (vs1 : List Nat) (stay : Mem → Prop) (ρ : Sl) (Q : D → Mem → Prop) : List D → List (D × D) → Mem → Prop
  | [], acc, M => stay M ∧ ∀ p, M p = none → Q (.ref p) (mupd M p (.dic acc))
  | x :: xs, acc, M => stay M ∧ g.f x ρ M fun ρ2 M2 => tt.f ρ2 M2 fun b M3 => (b = true → wi1.f ρ2 M3 fun items1 stay1 M4 => dn2G g1 tt1 tk te stay1 (wipeD ρ2 vs1) (fun acc M => dn2F g tt wi1 g1 tt1 tk te vs1 stay ρ Q xs acc M) items1 acc M4) ∧ (b = false → dn2F g tt wi1 g1 tt1 tk te vs1 stay ρ Q xs acc M3)
theorem dn2F_mono {g : WG} {tt : WT} {wi1 : WI} {g1 : WG} {tt1 : WT} {tk te : WE} {vs1 : List Nat} {stay : Mem → Prop} {ρ : Sl} {Q Q' : D → Mem → Prop} (h : ∀ d M, Q d M → Q' d M) : ∀ (xs : List D) (acc : List (D × D)) (M : Mem), dn2F g tt wi1 g1 tt1 tk te vs1 stay ρ Q xs acc M → dn2F g tt wi1 g1 tt1 tk te vs1 stay ρ Q' xs acc M
  | [], _, _, q => ⟨q.1, fun p hp => h _ _ (q.2 p hp)⟩
  | x :: xs, acc, M, q => ⟨q.1, g.mono _ _ _ _ _ (fun ρ2 M2 q => tt.mono _ _ _ _ (fun b M3 q => ⟨fun e => wi1.mono _ _ _ _ (fun ds st M q => dn2G_mono (fun acc M q => dn2F_mono h xs acc M q) ds acc M q) (q.1 e), fun e => dn2F_mono h xs _ _ (q.2 e)⟩) q) q.2⟩
def wDn2 (wi : WI) (g : WG) (tt : WT) (wi1 : WI) (g1 : WG) (tt1 : WT) (tk te : WE) (vs vs1 : List Nat) : WE := ⟨fun ρ M Q => wi.f ρ M fun items stay M1 => dn2F g tt wi1 g1 tt1 tk te vs1 stay (wipeD ρ vs) Q items [] M1,
  fun ρ M Q Q' h q => wi.mono _ _ _ _ (fun ds st M q => dn2F_mono h ds [] M q) q⟩
theorem e_wDn2 (wi : WI) (g : WG) (tt : WT) (wi1 : WI) (g1 : WG) (tt1 : WT) (tk te : WE) (vs vs1 : List Nat) (ρ : Sl) (M : Mem) (Q : D → Mem → Prop) : (wDn2 wi g tt wi1 g1 tt1 tk te vs vs1).f ρ M Q = (wi.f ρ M fun items stay M1 => dn2F g tt wi1 g1 tt1 tk te vs1 stay (wipeD ρ vs) Q items [] M1) := rfl
/-- the second clause begins -/
theorem cs1 {prog : Program} {w : World} {A : Around} {R : Result → Shared → Prop} {s : Shared} {kx vx t0 i0 t1 i1 : Expr} {ifs0 ifs1 : List Expr} {scope : Scope} {pos : Pos} {it acc : Value} {env : Env}
    (loop : codeAny (model prog w) A (.compLoop (dc2 kx vx t0 i0 ifs0 t1 i1 ifs1 scope pos) 1 it acc env) R s)
    (self : ∀ E, wpAny (model prog w) A (pyIter it) (fun it' s' => codeAny (model prog w) A (.compLoop (dc2 kx vx t0 i0 ifs0 t1 i1 ifs1 scope pos) 1 it' acc env) R s') E s) :
    codeAny (model prog w) A (.compStart (dc2 kx vx t0 i0 ifs0 t1 i1 ifs1 scope pos) 1 it acc env) R s := by
  refine codeAny_of_tree ?_
  show wpAny _ _ ((compStart (dc2 kx vx t0 i0 ifs0 t1 i1 ifs1 scope pos) 1 it acc env).onRaise (fun x => do noteFrame x env; standAt theWindowsPlace)) _ _ s
  refine wpAny_notedAt ?_
  have again_ok : ∀ {it' : Value} {s' : Shared} {E : Value → Shared → Prop}, codeAny (model prog w) A (.compLoop (dc2 kx vx t0 i0 ifs0 t1 i1 ifs1 scope pos) 1 it' acc env) R s' → wpAny (model prog w) (A.under (.compStart (dc2 kx vx t0 i0 ifs0 t1 i1 ifs1 scope pos) 1 it acc env)) (again (.compLoop (dc2 kx vx t0 i0 ifs0 t1 i1 ifs1 scope pos) 1 it' acc env)) (fun fin s' => match fin with | .done f => R (.ok f) s' | .again c' => c'.quiet = true ∧ codeAny (model prog w) A c' R s') E s' := fun h => wpAny_pure ⟨rfl, h⟩
  unfold compStart
  show wpAny _ _ (ask >>= _) _ _ s
  refine wpAny_bind (wpAny_askSetting (wpAny_ite ?_))
  split
  · first
      | exact again_ok loop
      | exact wpAny_bind (again_ok loop)
      | exact wpAny_bind (wpAny_mono (again_ok loop) (fun _ _ z => wpAny_pure z) fun _ _ z => z)
  · refine wpAny_bind (wpAny_rule ?_)
    show wpAny _ _ (standAt i1.pos >>= _) _ _ s
    exact wpAny_bind (wpAny_standAt (wpAny_bind (thn (self _) fun it' s' h' => again_ok h')))
theorem known_of {σ σ' : L2.St} {vs sl : List Nat} (h : SlSame (wipe σ vs) σ' sl) (hs : ∀ i ∈ sl, i ∈ vs) : Known (wipe σ vs) σ' :=
  ⟨by rw [wipe_length, h.1, wipe_length], fun j v e => by rw [← wipe_same h hs] at e; exact (wipe_some e).1⟩
section
variable {B : Cx} {kx vx t0 i0 t1 i1 : Expr} {ifs0 ifs1 : List Expr} {scope : Scope} {pos : Pos} {g g1 : WG} {tt tt1 : WT} {tk te : WE} {wi1 : WI} {a : Addr} {H1 : Hp} {M1 : Mem}
/-- the second clause's turns -/
theorem dn2_in {pins : List (Addr × Obj)} {fp : List Addr} {it : Addr} {J : It} {tid : Nat → Heap → Prop} {vs1 : List Nat} {items : List D} {stay : Mem → Prop} {R : Result → Shared → Prop} {σ : L2.St} {ρ : Sl} {Hb : Hp} {N : List (D × D) → Mem → Prop} (hc : B.calm = true) (hx : B.xe = fun _ _ => False) (hu : B.A.units + 64 < cLine)
    (T : Turn B.prog B.w B.K t1 J fp it tid) (hg : DG B t1 g1) (ht : DTs B ifs1 tt1) (hk : DE B kx tk) (hv : DE B vx te) (hsl : ∀ i ∈ g1.sl, i ∈ vs1) (ha : H1 a = none) (rs : RelS B.K Hb ρ σ) (ok : ItOk B.prog B.w B.K J items stay Hb)
    (off : ∀ {σ : L2.St} {H : Hp} {s : Shared}, Inv B pins σ H s → (∀ b ∈ fp, H b = none) → ∀ b ∈ fp, FpOk B pins H b)
    (done : ∀ {c : List (D × D)} {H : Hp} {M : Mem} {s : Shared}, Inv B pins (wipe σ vs1) H s → Mid B.prog B.w B.K a H1 M1 c H M → N c M → R (.ok .next) s)
    {c0 : List (D × D)} {H0 : Hp} {M0 : Mem} {s0 : Shared} (I0 : Inv B pins (wipe σ vs1) H0 s0) (t0' : tid 0 s0.heap) (f0 : ∀ b ∈ fp, H0 b = none) (m0 : Mid B.prog B.w B.K a H1 M1 c0 H0 M0) (kp : Keep Hb H0) (q0 : dn2G g1 tt1 tk te stay (wipeD ρ vs1) N items c0 M0) :
    codeAny (model B.prog B.w) B.A (.compLoop (dc2 kx vx t0 i0 ifs0 t1 i1 ifs1 scope pos) 1 (.ref it) (.ref a) B.env) R s0 := by
  have xe : ∀ {α : Type} {t : Sem α} {Q : α → Shared → Prop} {s : Shared}, wpAny (model B.prog B.w) B.A t Q B.xe s → wpAny (model B.prog B.w) B.A t Q (fun _ _ => False) s := fun {α t Q s} h => by rw [hx] at h; exact h
  refine cl_turns (γ := List (D × D)) (ρ0 := wipeD ρ vs1) (Hb := Hb) (fun c H M => Mid B.prog B.w B.K a H1 M1 c H M ∧ Keep Hb H) (fun i c M => dn2G g1 tt1 tk te stay (wipeD ρ vs1) N (items.drop i) c M)
    (fun i c ρ2 M3 => tk.f ρ2 M3 fun k M4 => te.f ρ2 M4 fun y M5 => keyOk c k ∧ c.length < sizeLine ∧ dn2G g1 tt1 tk te stay (wipeD ρ vs1) N (items.drop (i + 1)) (dputD c k y) M5) hc hx T hg ht (ct_in _ _ _) off
    (fun {c H M} ⟨m, k⟩ => ⟨m.rm, (rs.keep k).wipe vs1, k⟩) (fun {c H M H' M'} ⟨m, k⟩ st rm => ⟨m.on st rm, ⟨fun b xs h => (st.keep m.rm).1 b xs (k.1 b xs h), fun b o u h => (st.keep m.rm).2 b o u (k.2 b o u h)⟩⟩) ok (fun {i c M} q => ?_) (fun same => known_of same hsl) (fun {pins' i c σ' ρ' H M s} I same r ⟨m, k⟩ q => ?_) (fun {c H M s} I ⟨m, k⟩ q => ?_) I0 t0' f0 ⟨m0, kp⟩ (by rw [List.drop_zero]; exact q0)
  · cases hd : items.drop i with
    | nil =>
      rw [hd] at q
      exact ⟨q.1, fun d hi => by have := (List.getElem?_eq_some_iff.mp hi).1; have e := congrArg List.length hd; rw [List.length_drop, List.length_nil] at e; omega⟩
    | cons x xs =>
      rw [hd] at q
      refine ⟨q.1, fun d hi => ?_⟩
      have lt := (List.getElem?_eq_some_iff.mp hi).1
      rw [List.drop_eq_getElem_cons lt] at hd
      injection hd with e1 e2
      rw [List.getElem?_eq_getElem lt] at hi
      cases hi
      subst e1 e2
      exact q.2
  · unfold k2In
    refine wpAny_bind (wpAny_bind (thn (xe (hk.pe.run _ s σ' H (fun y H6 => ∃ kd M6, Step H M H6 M6 ∧ RelM B.prog B.w B.K H6 M6 ∧ RelD B.K H6 kd y ∧ _) I ⟨ρ', M, _, r, m.rm, q, fun y kd H6 M6 st6 m6 r6 q6 => ⟨kd, M6, st6, m6, r6, q6⟩⟩)) fun uk s6 ⟨yk, H6, I6, ru6, kd, M6, st6, m6, r6, q6⟩ => ?_))
    refine wpAny_bind (wpAny_holding (thn (xe (hv.pe.run _ s6 σ' H6 (fun y H7 => ∃ d M7, Step H6 M6 H7 M7 ∧ RelM B.prog B.w B.K H7 M7 ∧ RelD B.K H7 d y ∧ _) I6 ⟨ρ', M6, _, r.keep (st6.keep m.rm), m6, q6, fun y d H7 M7 st7 m7 r7 q7 => ⟨d, M7, st7, m7, r7, q7⟩⟩)) fun uv s7 ⟨yv, H7, I7, ru7, d, M7, st7, m7, r7, ko, hl, q7⟩ => ?_))
    have st67 := st6.trans st7
    have mid7 := m.on st67 m7
    have k7 : Keep Hb H7 := ⟨fun b xs h => (st67.keep m.rm).1 b xs (k.1 b xs h), fun b o u h => (st67.keep m.rm).2 b o u (k.2 b o u h)⟩
    refine wpAny_bind (wpAny_standAt (wpAny_holding (dic_fill hu I7 mid7.dic ko hl (r6.keep (st7.keep m6)) ru6 r7 ru7 fun o s8 I8 r8 => wpAny_pure ⟨rfl, σ', _, M7, _, I8, known_of same hsl, ⟨mid7.put ha r8, ?_⟩, q7⟩)))
    obtain ⟨u, hu', mu⟩ := dic_there mid7.dic
    have kW := (m7.hidW (u := o) hu' mid7.hid mu).2
    exact ⟨fun b xs h => kW.1 b xs (k7.1 b xs h), fun b ob x h => kW.2 b ob x (k7.2 b ob x h)⟩
  · rw [List.drop_of_length_le (Nat.le_refl _)] at q
    exact done I m q.2
/-- the first clause's turns -/
theorem dn2_out {fp : List Addr} {it : Addr} {J : It} {tid : Nat → Heap → Prop} {vs vs1 : List Nat} {items : List D} {stay : Mem → Prop} {R : Result → Shared → Prop} {σ : L2.St} {ρ : Sl} {Q' : D → Mem → Prop} (hc : B.calm = true) (hx : B.xe = fun _ _ => False) (hu : B.A.units + 64 < cLine)
    (T : Turn B.prog B.w B.K t0 J fp it tid) (hg : DG B t0 g) (ht : DTs B ifs0 tt) (hi1 : DI B t1 i1 wi1) (hg1 : DG B t1 g1) (ht1 : DTs B ifs1 tt1) (hk : DE B kx tk) (hv : DE B vx te) (hsl : ∀ i ∈ g.sl, i ∈ vs) (hsl1 : ∀ i ∈ g1.sl, i ∈ vs1) (hvs : ∀ i ∈ vs1, i ∈ vs)
    (hs1 : ∀ x, foldedSetIterable i1 B.env x = pure x) (off : ∀ {σ : L2.St} {H : Hp} {s : Shared}, Inv B [] σ H s → (∀ b ∈ fp, H b = none) → ∀ b ∈ fp, FpOk B [] H b)
    (ha : H1 a = none) (rs : RelS B.K H1 ρ σ) (m1 : RelM B.prog B.w B.K H1 M1) (ok : ItOk B.prog B.w B.K J items stay H1)
    (fin : ∀ s' H' M', Inv B [] (wipe σ vs) H' s' → Step H1 M1 H' M' → RelM B.prog B.w B.K H' M' → Q' (.ref a) M' → R (.ok .next) s')
    {s0 : Shared} (I0 : Inv B [] (wipe σ vs) (upd H1 a (.dK [])) s0) (t0' : tid 0 s0.heap) (f0 : ∀ b ∈ fp, upd H1 a (.dK []) b = none) (q : dn2F g tt wi1 g1 tt1 tk te vs1 stay (wipeD ρ vs) Q' items [] M1) :
    codeAny (model B.prog B.w) B.A (.compLoop (dc2 kx vx t0 i0 ifs0 t1 i1 ifs1 scope pos) 0 (.ref it) (.ref a) B.env) R s0 := by
  have xe : ∀ {α : Type} {t : Sem α} {Q : α → Shared → Prop} {s : Shared}, wpAny (model B.prog B.w) B.A t Q B.xe s → wpAny (model B.prog B.w) B.A t Q (fun _ _ => False) s := fun {α t Q s} h => by rw [hx] at h; exact h
  refine cl_turns (γ := List (D × D)) (ρ0 := wipeD ρ vs) (Hb := H1) (fun c H M => Mid B.prog B.w B.K a H1 M1 c H M) (fun i c M => dn2F g tt wi1 g1 tt1 tk te vs1 stay (wipeD ρ vs) Q' (items.drop i) c M)
    (fun i c ρ2 M3 => wi1.f ρ2 M3 fun items1 stay1 M4 => dn2G g1 tt1 tk te stay1 (wipeD ρ2 vs1) (fun acc M => dn2F g tt wi1 g1 tt1 tk te vs1 stay (wipeD ρ vs) Q' (items.drop (i + 1)) acc M) items1 c M4) hc hx T hg ht (ct_out _ _ _) off
    (fun {c H M} m => ⟨m.rm, (rs.keep (m.st.keep m1)).wipe vs, m.st.keep m1⟩) (fun {c H M H' M'} m st rm => m.on st rm) ok (fun {i c M} q => ?_) (fun same => known_of same hsl) (fun {pins' i c σ' ρ' H M s} I same r m q => ?_) (fun {c H M s} I m q => ?_) I0 t0' f0
    ⟨.inl ⟨[], upd_same, rfl, .nil⟩, m1.free ha, Step.beside ha, m1.beside ha⟩ (by rw [List.drop_zero]; exact q)
  · cases hd : items.drop i with
    | nil =>
      rw [hd] at q
      exact ⟨q.1, fun d hi => by have := (List.getElem?_eq_some_iff.mp hi).1; have e := congrArg List.length hd; rw [List.length_drop, List.length_nil] at e; omega⟩
    | cons x xs =>
      rw [hd] at q
      refine ⟨q.1, fun d hi => ?_⟩
      have lt := (List.getElem?_eq_some_iff.mp hi).1
      rw [List.drop_eq_getElem_cons lt] at hd
      injection hd with e1 e2
      rw [List.getElem?_eq_getElem lt] at hi
      cases hi
      subst e1 e2
      exact q.2
  · unfold k2Out
    refine wpAny_bind (thn (xe (hi1.pi.run pins' s σ' H (fun J1 H2 => ∃ items1 stay1 M2, Step H M H2 M2 ∧ RelM B.prog B.w B.K H2 M2 ∧ ItOk B.prog B.w B.K J1 items1 stay1 H2 ∧ _) I ⟨ρ', M, _, r, m.rm, q, fun J1 items1 stay1 H2 M2 st m2 q2 ok2 => ⟨items1, stay1, M2, st, m2, ok2, q2⟩⟩)) fun xv s1 hx1 => ?_)
    refine wpAny_bind (wpAny_standAt (wpAny_bind (wpAny_of_eq (hs1 xv) (wpAny_bind (wpAny_holding (thn (xe hx1) fun itv s2 h2 => ?_))))))
    obtain ⟨it1, fp1, tid1, J1, H2, rfl, I2, T1, t2, f2, items1, stay1, M2, st, m2, ok1, q1⟩ := h2
    have mid2 := m.on st m2
    have knw := known_of same hsl
    have loop : codeAny (model B.prog B.w) B.A (.compLoop (dc2 kx vx t0 i0 ifs0 t1 i1 ifs1 scope pos) 1 (.ref it1) (.ref a) B.env) (fun r s' => match r with
        | .ok _ => ∃ σ'' H' M' c', Inv B pins' σ'' H' s' ∧ Known (wipe σ vs) σ'' ∧ Mid B.prog B.w B.K a H1 M1 c' H' M' ∧ dn2F g tt wi1 g1 tt1 tk te vs1 stay (wipeD ρ vs) Q' (items.drop (i + 1)) c' M'
        | .error _ => False) s2 := by
      refine dn2_in (vs1 := vs1) (Hb := H2) (ρ := ρ') (σ := σ') hc hx hu T1 hg1 ht1 hk hv hsl1 ha (r.keep (st.keep m.rm)) ok1 (fun {σ H s} I n b hb => ⟨n b hb, (f2 b hb).2⟩) (fun {c H M s} I' m' n' => ⟨wipe σ' vs1, H, M, c, I', ?_, m', n'⟩)
        (I2.weak (wipe_length _ _) fun j v e => (wipe_some e).1) t2 (fun b hb => (f2 b hb).1) mid2 ⟨fun _ _ h => h, fun _ _ _ h => h⟩ q1
      refine ⟨knw.1.trans (wipe_length _ _).symm, fun j v e => ?_⟩
      have e2 := knw.2 j v e
      rw [wipe_out (fun z => (wipe_some e).2 (hvs j z))]
      exact e2
    refine wpAny_bind (wpAny_runOwn ?_)
    rw [Around.mark_none]
    refine codeAny_mono (cs1 loop fun E => T1.self B.A 0 _ _ _ t2 loop) fun r s' hr => ?_
    cases r with
    | ok f => exact wpAny_pure ⟨rfl, hr⟩
    | error e => exact hr.elim
  · rw [List.drop_of_length_le (Nat.le_refl _)] at q
    obtain ⟨st, rm⟩ := m.done ha
    exact fin _ H _ I st rm (q.2 a m.hid)
end
section
variable {X : Cx} {pins : List (Addr × Obj)} {σ : L2.St} {H : Hp} {s : Shared} {kx vx tg iter tg1 iter1 : Expr} {ifs ifs1 : List Expr} {scope : Scope} {own : List (Str × Nat)} {vs1 : List Nat} {pos pos' : Pos} {wi wi1 : WI} {g g1 : WG} {tt tt1 : WT} {tk te : WE} {use : Option (Value → Sem Unit)} {Qf : Value → Shared → Prop} {ρ : Sl} {M : Mem} {Q' : D → Mem → Prop}
theorem dn2_comp (hu : X.A.units + 64 < cLine) (hc : X.calm = true) (hN : X.N.Nodup) (I : Inv X pins σ H s) (hi : DI X tg iter wi) (ok : BlkOk X.N X.env.scope scope own) (hvs : ∀ i ∈ vs1, i ∈ own.map (·.2))
    (hg : ∀ (s : Shared) (H : Hp) (C : Addr) (cl : List (Str × Addr)) (fp : List Addr), DG (X.blk s H scope (compEnvC scope cl C X.env) fp) tg g) (ht : ∀ (s : Shared) (H : Hp) (C : Addr) (cl : List (Str × Addr)) (fp : List Addr), DTs (X.blk s H scope (compEnvC scope cl C X.env) fp) ifs tt)
    (hi1 : ∀ (s : Shared) (H : Hp) (C : Addr) (cl : List (Str × Addr)) (fp : List Addr), DI (X.blk s H scope (compEnvC scope cl C X.env) fp) tg1 iter1 wi1) (hg1 : ∀ (s : Shared) (H : Hp) (C : Addr) (cl : List (Str × Addr)) (fp : List Addr), DG (X.blk s H scope (compEnvC scope cl C X.env) fp) tg1 g1) (ht1 : ∀ (s : Shared) (H : Hp) (C : Addr) (cl : List (Str × Addr)) (fp : List Addr), DTs (X.blk s H scope (compEnvC scope cl C X.env) fp) ifs1 tt1)
    (hk : ∀ (s : Shared) (H : Hp) (C : Addr) (cl : List (Str × Addr)) (fp : List Addr), DE (X.blk s H scope (compEnvC scope cl C X.env) fp) kx tk) (hv : ∀ (s : Shared) (H : Hp) (C : Addr) (cl : List (Str × Addr)) (fp : List Addr), DE (X.blk s H scope (compEnvC scope cl C X.env) fp) vx te)
    (hsl : ∀ i ∈ g.sl, i ∈ own.map (·.2)) (hsl1 : ∀ i ∈ g1.sl, i ∈ vs1) (hs : ∀ x, foldedSetIterable iter X.env x = pure x) (hs1 : ∀ env x, foldedSetIterable iter1 env x = pure x) (rs : RelS X.K H ρ σ) (rm : RelM X.prog X.w X.K H M) (q : (wDn2 wi g tt wi1 g1 tt1 tk te (own.map (·.2)) vs1).f ρ M Q')
    (fin : ∀ a C s' m H' M', Inv X pins σ H' s' → Step H M H' M' → RelM X.prog X.w X.K H' M' → Q' (.ref a) M' → s'.heap.Ns C m → FpOk X pins H' C → compPost (model X.prog X.w) X.A X.xe use Qf (.ref a) C (.ok .next) s') :
    wpAny (model X.prog X.w) X.A (comprehension (dc2 kx vx tg iter ifs tg1 iter1 ifs1 scope pos) scope X.env pos' newDict false (eval iter X.env) use) Qf X.xe s := by
  have cells : ∀ y ∈ scope.names, y.2 = .free → ∃ c, X.env.cells.lookup y.1 = some c := fun y hy e => I.ok.has _ (ok.free y hy e)
  refine wpAny_comprehension_free (use := use) rfl hs (closure_ok cells) ok.kind (fun y hy e => (ok.uniq y hy).trans (congrArg some e)) (thn (hi.pi.run pins s σ H (fun J H1 => ∃ items stay M1, Step H M H1 M1 ∧ RelM X.prog X.w X.K H1 M1 ∧ ItOk X.prog X.w X.K J items stay H1 ∧ dn2F g tt wi1 g1 tt1 tk te vs1 stay (wipeD ρ (own.map (·.2))) Q' items [] M1) I
    ⟨ρ, M, _, rs, rm, q, fun J items stay H1 M1 st m1 q1 ok1 => ⟨items, stay, M1, st, m1, ok1, q1⟩⟩) fun _ s1 h1 => thn h1 fun itv s2 h2 => ?_)
  obtain ⟨it, fp, tid, J, H2, rfl, I2, T, t2, f2, items, stay, M1, st, m1, ok1, q1⟩ := h2
  refine wpAny_newObj_type (newEnv_comp ?_)
  have push : ∀ b o, s2.heap.get? b = some o → (s2.heap.push { cls := .type "dict", data := .dict #[] }).get? b = some o := fun b o e => Heap.get?_push_of_some _ e
  have fresh : H2 s2.heap.objs.size = none := I2.hok.fresh (Nat.le_refl _)
  have I3 := I2.laid (t' := s2.toks) push (Nat.le_refl _) (dk_empty s2.heap I2.big)
  have f3 : ∀ b ∈ fp, FpOk X pins (upd H2 s2.heap.objs.size (.dK [])) b ∧ b < s2.heap.objs.size := fun b hb => by
    obtain ⟨o, e, _⟩ := T.obj _ _ t2 b hb
    have lt := Heap.lt_size e
    exact ⟨⟨(upd_ne (Nat.ne_of_lt lt)).trans (f2 b hb).1, (f2 b hb).2⟩, lt⟩
  have I4 := block_start I3 ok hN fun b hb => ⟨(f3 b hb).1, by rw [Heap.size_push]; exact Nat.lt_succ_of_lt (f3 b hb).2⟩
  have t4 := T.keep 0 s2.heap (pushCells ((s2.heap.push { cls := .type "dict", data := .dict #[] }).push { cls := .type "dict", data := .dict #[] }) scope.names) t2 fun b _ o e => pushCells_keeps _ _ _ _ (Heap.get?_push_of_some _ (push b o e))
  have turns := dn2_out (B := X.blk _ _ scope (compEnvC scope _ _ X.env) fp) (i0 := iter) (scope := scope) (pos := pos) (R := compPost (model X.prog X.w) X.A X.xe use Qf (.ref s2.heap.objs.size) (s2.heap.push { cls := .type "dict", data := .dict #[] }).objs.size) hc rfl hu T (hg _ _ _ _ fp) (ht _ _ _ _ fp) (hi1 _ _ _ _ fp) (hg1 _ _ _ _ fp) (ht1 _ _ _ _ fp) (hk _ _ _ _ fp) (hv _ _ _ _ fp) hsl hsl1 hvs (hs1 _) blk_off fresh (rs.keep (st.keep rm)) m1 ok1
    (fun s' H' M' I' st' m' q' => by
      obtain ⟨I5, fC, m, hm⟩ := blk_back I3 (fun b hb => (f3 b hb).1) rfl I'
      exact fin _ _ s' m H' M' I5 (st.trans st') m' q' hm fC) I4 t4 (fun b hb => (f3 b hb).1.1) q1
  exact codeAny_compStart_dict turns (T.self X.A 0 _ _ _ t4 turns)
theorem de_dn2 (hu : X.A.units + 64 < cLine) (hc : X.calm = true) (hN : X.N.Nodup) (hi : DI X tg iter wi) (ok : BlkOk X.N X.env.scope scope own) (hvs : ∀ i ∈ vs1, i ∈ own.map (·.2))
    (hg : ∀ (s : Shared) (H : Hp) (C : Addr) (cl : List (Str × Addr)) (fp : List Addr), DG (X.blk s H scope (compEnvC scope cl C X.env) fp) tg g) (ht : ∀ (s : Shared) (H : Hp) (C : Addr) (cl : List (Str × Addr)) (fp : List Addr), DTs (X.blk s H scope (compEnvC scope cl C X.env) fp) ifs tt)
    (hi1 : ∀ (s : Shared) (H : Hp) (C : Addr) (cl : List (Str × Addr)) (fp : List Addr), DI (X.blk s H scope (compEnvC scope cl C X.env) fp) tg1 iter1 wi1) (hg1 : ∀ (s : Shared) (H : Hp) (C : Addr) (cl : List (Str × Addr)) (fp : List Addr), DG (X.blk s H scope (compEnvC scope cl C X.env) fp) tg1 g1) (ht1 : ∀ (s : Shared) (H : Hp) (C : Addr) (cl : List (Str × Addr)) (fp : List Addr), DTs (X.blk s H scope (compEnvC scope cl C X.env) fp) ifs1 tt1)
    (hk : ∀ (s : Shared) (H : Hp) (C : Addr) (cl : List (Str × Addr)) (fp : List Addr), DE (X.blk s H scope (compEnvC scope cl C X.env) fp) kx tk) (hv : ∀ (s : Shared) (H : Hp) (C : Addr) (cl : List (Str × Addr)) (fp : List Addr), DE (X.blk s H scope (compEnvC scope cl C X.env) fp) vx te)
    (hsl : ∀ i ∈ g.sl, i ∈ own.map (·.2) := by decide) (hsl1 : ∀ i ∈ g1.sl, i ∈ vs1 := by decide) (hs : ∀ x, foldedSetIterable iter X.env x = pure x := by intro _; rfl) (hs1 : ∀ env x, foldedSetIterable iter1 env x = pure x := by intro _ _; rfl) : DE X (.DictComp kx vx [⟨tg, iter, ifs, 0⟩, ⟨tg1, iter1, ifs1, 0⟩] scope pos) (wDn2 wi g tt wi1 g1 tt1 tk te (own.map (·.2)) vs1) := ⟨⟨fun pins s σ H Q I ⟨ρ, M, Q', rs, rm, q, po⟩ => by
  rw [arm_eval_DictComp]
  refine dn2_comp hu hc hN I hi ok hvs hg ht hi1 hg1 ht1 hk hv hsl hsl1 hs hs1 rs rm q fun a C s' m H' M' I' st m' q' hm f => ⟨m, hm, fun h'' sb => ?_⟩
  exact ⟨.ref a, H', I'.turned (t' := s'.toks) (fun b o hb e => (sb.2 b hb).trans e) f.1 f.2.1 f.2.2.2.1 f.2.2.2.2.1 f.2.2.2.2.2, rfl, po _ _ H' M' st m' (.ref a) q'⟩⟩⟩
theorem ds_setDn2 {i : Nat} {y : Str} {py spos : Pos} (hu : X.A.units + 64 < cLine) (hc : X.calm = true) (hN : X.N.Nodup) (hy : X.N[i]? = some y) (hyl : X.env.scope.names.lookup y = some .local)
    (hsw : swapsWith (.DictComp kx vx [⟨tg, iter, ifs, 0⟩, ⟨tg1, iter1, ifs1, 0⟩] scope pos) (some (.Name y py)) spos.line X.env = pure true) (hi : DI X tg iter wi) (ok : BlkOk X.N X.env.scope scope own) (hvs : ∀ i ∈ vs1, i ∈ own.map (·.2))
    (hg : ∀ (s : Shared) (H : Hp) (C : Addr) (cl : List (Str × Addr)) (fp : List Addr), DG (X.blk s H scope (compEnvC scope cl C X.env) fp) tg g) (ht : ∀ (s : Shared) (H : Hp) (C : Addr) (cl : List (Str × Addr)) (fp : List Addr), DTs (X.blk s H scope (compEnvC scope cl C X.env) fp) ifs tt)
    (hi1 : ∀ (s : Shared) (H : Hp) (C : Addr) (cl : List (Str × Addr)) (fp : List Addr), DI (X.blk s H scope (compEnvC scope cl C X.env) fp) tg1 iter1 wi1) (hg1 : ∀ (s : Shared) (H : Hp) (C : Addr) (cl : List (Str × Addr)) (fp : List Addr), DG (X.blk s H scope (compEnvC scope cl C X.env) fp) tg1 g1) (ht1 : ∀ (s : Shared) (H : Hp) (C : Addr) (cl : List (Str × Addr)) (fp : List Addr), DTs (X.blk s H scope (compEnvC scope cl C X.env) fp) ifs1 tt1)
    (hk : ∀ (s : Shared) (H : Hp) (C : Addr) (cl : List (Str × Addr)) (fp : List Addr), DE (X.blk s H scope (compEnvC scope cl C X.env) fp) kx tk) (hv : ∀ (s : Shared) (H : Hp) (C : Addr) (cl : List (Str × Addr)) (fp : List Addr), DE (X.blk s H scope (compEnvC scope cl C X.env) fp) vx te)
    (hsl : ∀ i ∈ g.sl, i ∈ own.map (·.2) := by decide) (hsl1 : ∀ i ∈ g1.sl, i ∈ vs1 := by decide) (hs : ∀ x, foldedSetIterable iter X.env x = pure x := by intro _; rfl) (hs1 : ∀ env x, foldedSetIterable iter1 env x = pure x := by intro _ _; rfl) : DS X (.Assign [.Name y py] (.DictComp kx vx [⟨tg, iter, ifs, 0⟩, ⟨tg1, iter1, ifs1, 0⟩] scope pos) spos) (sAsg (wDn2 wi g tt wi1 g1 tt1 tk te (own.map (·.2)) vs1) (gN i)) := ⟨⟨fun pins s σ H B I ⟨ρ, M, A, rs, rm, q, po⟩ => by
  rw [exec_Assign_Name_used _ _ _ _ hsw]
  refine wpAny_bind (wpAny_standAt (wpAny_bind (wpAny_bind (thn (dn2_comp (use := some (assign (.Name y py) X.env)) (Qf := fun _ s' => SP X pins B .next s') hu hc hN I hi ok hvs hg ht hi1 hg1 ht1 hk hv hsl hsl1 hs hs1 rs rm q fun a C s' m H' M' I' st m' q' hm f => ?_) fun _ _ h => wpAny_pure (wpAny_pure h)))))
  refine wpAny_assign_Name (store_ok2 (v := V.ref a) I' hN hy (.inl hyl) rfl (fun sB IB hB => ?_) (.inr hyl))
  obtain ⟨mB, nB, left⟩ := block_left f hm IB hB
  exact ⟨mB, nB, fun h' same => ⟨_, H', left h' same, po.nx _ _ H' M' st m' ((rs.keep (st.keep rm)).set i (.ref a)) q'⟩⟩⟩⟩
end
end MP

namespace MP
open PySem PySem.Spec PyProof.Rows L2

/-! ### range objects that stand -/
def nRng1 : WN := ⟨fun ds M Q => ∃ j : Int, ds = [.int j] ∧ ∀ p, M p = none → Q (.ref p) (mupd M p (.rg 0 j)), fun _ _ _ _ h ⟨j, e, q⟩ => ⟨j, e, fun p hp => h _ _ (q p hp)⟩⟩
theorem e_nRng1 (ds : List D) (M : Mem) (Q : D → Mem → Prop) : nRng1.f ds M Q = (∃ j : Int, ds = [.int j] ∧ ∀ p, M p = none → Q (.ref p) (mupd M p (.rg 0 j))) := rfl
def iRgF (d : D) (M : Mem) (Q : List D → (Mem → Prop) → Mem → Prop) : Prop := match d with
  | .ref a => ∃ lo hi, M a = some (.rg lo hi) ∧ (-(2 ^ 62) ≤ lo ∧ lo < 2 ^ 62 ∧ -(2 ^ 62) ≤ hi ∧ hi < 2 ^ 62) ∧ Q (rngD lo (hi - lo).toNat) (fun _ => True) M
  | _ => False
def iRg (e : WE) : WI := ⟨fun ρ M Q => e.f ρ M fun d M1 => iRgF d M1 Q, fun ρ M Q Q' h q => e.mono _ _ _ _ (fun d M q => by
  cases d <;> first | exact q.elim | (obtain ⟨lo, hi, e, b, q⟩ := q; exact ⟨lo, hi, e, b, h _ _ _ q⟩)) q⟩
theorem e_iRg (e : WE) (ρ : Sl) (M : Mem) (Q : List D → (Mem → Prop) → Mem → Prop) : (iRg e).f ρ M Q = (e.f ρ M fun d M1 => iRgF d M1 Q) := rfl
theorem irg_at {a : Addr} {lo hi : Int} {M : Mem} {Q : List D → (Mem → Prop) → Mem → Prop} (h : M a = some (.rg lo hi)) (b : -(2 ^ 62) ≤ lo ∧ lo < 2 ^ 62 ∧ -(2 ^ 62) ≤ hi ∧ hi < 2 ^ 62) (q : Q (rngD lo (hi - lo).toNat) (fun _ => True) M) : iRgF (.ref a) M Q := ⟨lo, hi, h, b, q⟩
section
variable {X : Cx}
theorem cr_rng1 : CallR X (.type "range") (fun vs H Q => ∃ j, vs = [V.int j] ∧ ∀ p, H p = none → Q (.ref p) (upd H p (.rng 0 j))) := fun pins s σ H vs us Q I r ⟨j, e, q⟩ => by
  subst e
  obtain ⟨u, rfl, ru⟩ := vals1 r
  obtain ⟨t, rfl⟩ := ru
  have h0 : H s.heap.objs.size = none := I.hok.fresh (Nat.le_refl _)
  refine call_range_1 ?_
  exact ⟨.ref s.heap.objs.size, upd H s.heap.objs.size (.rng 0 j), I.laid (t' := s.toks + 2) (fun b o e => Heap.get?_push_of_some _ e) (Nat.le_refl _) ⟨_, _, _, Heap.get?_push_size _ rfl⟩, rfl, q _ h0⟩
theorem f_range1 : DN X (.type "range") nRng1 := d_imp cr_rng1 fun xs H Q ⟨ds, M, Q', rds, rm, ⟨j, e, q⟩, po⟩ => by
  subst e
  obtain ⟨v, rfl, rv⟩ := rel1 rds
  exact ⟨j, by rw [rel_int rv], fun p hp => po _ _ _ _ (Step.new rm hp (.rg 0 j)) (rm.laid hp (keep_new hp) upd_same) (.ref p) (q p (rm.free hp))⟩
theorem bt_range : bootBuiltins "range" = some (.type "range") := by decide +kernel
variable {tg l : Expr} {we : WE}
theorem di_rg (hl : DE X l we) : DI X tg l (iRg we) := ⟨⟨fun pins s σ H R I ⟨ρ, M, Q', rs, rm, q, po⟩ => by
  refine thn (hl.pe.run pins s σ H (fun v H1 => ∃ d M1, Step H M H1 M1 ∧ RelM X.prog X.w X.K H1 M1 ∧ RelD X.K H1 d v ∧ iRgF d M1 Q') I ⟨ρ, M, _, rs, rm, q, fun v d H1 M1 s1 m1 r1 q1 => ⟨d, M1, s1, m1, r1, q1⟩⟩) fun u s1 ⟨x, H1, I1, r1, d, M1, st1, m1, rd, q1⟩ => ?_
  cases rd with
  | ref a =>
    obtain ⟨lo, hi, e, ⟨b1, b2, b3, b4⟩, q2⟩ := q1
    cases r1
    have hr : H1 a = some (.rng lo hi) := m1 a _ e
    obtain ⟨t, u, v, hg⟩ := (show ObjOk X.prog X.w H1 s1.heap a (.rng lo hi) from I1.hok a _ hr)
    refine wpAny_pyIter_range hg (small_one b1 b2 b3 b4) ?_
    exact pi_one (tk := s1.toks) I1 _ (turn_range _ lo (hi - lo).toNat) (by
      have e1 : lo + ((0 : Nat) : Int) * 1 = lo := by simp
      have e2 : (((hi - lo).toNat : Nat) : Int) - ((0 : Nat) : Int) = Builtin.Range.rangeSize lo hi 1 := by rw [rangeSize_one]; split <;> omega
      show IsRangeIter _ _ (lo + ((0 : Nat) : Int) * 1) ((((hi - lo).toNat : Nat) : Int) - ((0 : Nat) : Int)) 1
      rw [e1, e2]
      exact Heap.get?_push_size _ rfl) (po _ _ _ H1 M1 st1 m1 q2 itok_range)
  | _ => exact False.elim q1⟩⟩
end
end MP

namespace MP
open PySem PySem.Spec PyProof.Rows L2

/-! ### dict displays -/
def wDNew : WE := ⟨fun _ M Q => ∀ p, M p = none → Q (.ref p) (mupd M p (.dic [])), fun _ _ _ _ h q p hp => h _ _ (q p hp)⟩
theorem e_wDNew (ρ : Sl) (M : Mem) (Q : D → Mem → Prop) : wDNew.f ρ M Q = (∀ p, M p = none → Q (.ref p) (mupd M p (.dic []))) := rfl
/-- {a: x, b: y}, keys ints and texts -/
def wDisp2 (a x b y : WE) : WE := ⟨fun ρ M Q => a.f ρ M fun k M1 => x.f ρ M1 fun v M2 => b.f ρ M2 fun j M3 => y.f ρ M3 fun u M4 => k.pkey.isSome = true ∧ j.pkey.isSome = true ∧ ∀ p, M4 p = none → Q (.ref p) (mupd M4 p (.dic (dputD (dputD [] k v) j u))),
  fun ρ M Q Q' h q => a.mono _ _ _ _ (fun _ _ q => x.mono _ _ _ _ (fun _ _ q => b.mono _ _ _ _ (fun _ _ q => y.mono _ _ _ _ (fun _ _ q => ⟨q.1, q.2.1, fun p hp => h _ _ (q.2.2 p hp)⟩) q) q) q) q⟩
theorem e_wDisp2 (a x b y : WE) (ρ : Sl) (M : Mem) (Q : D → Mem → Prop) : (wDisp2 a x b y).f ρ M Q = (a.f ρ M fun k M1 => x.f ρ M1 fun v M2 => b.f ρ M2 fun j M3 => y.f ρ M3 fun u M4 => k.pkey.isSome = true ∧ j.pkey.isSome = true ∧ ∀ p, M4 p = none → Q (.ref p) (mupd M4 p (.dic (dputD (dputD [] k v) j u)))) := rfl
section
variable {X : Cx} {pos : Pos} {e1 e2 e3 e4 : Expr} {a x b y : WE}
theorem de_dnew : DE X (.Dict [] [] pos) wDNew := ⟨PE.imp pe_dnewK fun σ H Q ⟨ρ, M, Q', rs, rm, q, po⟩ p hp =>
  po (.ref p) (.ref p) _ _ (Step.new rm hp (.dic [])) (rm.laid hp (keep_new hp) (.inl ⟨[], upd_same, rfl, .nil⟩)) (.ref p) (q p (rm.free hp))⟩
theorem de_disp2 (h1 : DE X e1 a) (h2 : DE X e2 x) (h3 : DE X e3 b) (h4 : DE X e4 y) : DE X (.Dict [some e1, some e3] [e2, e4] pos) (wDisp2 a x b y) :=
  ⟨PE.imp (pe_disp (pps_cons h1.pe h2.pe (pps_cons h3.pe h4.pe pps_nil)) rfl rfl (by simp) (by simp)) fun σ H Q ⟨ρ, M, Q', rs, rm, q, po⟩ p hp => by
    have m0 : Mid X.prog X.w X.K p H M [] (upd H p (.dK [])) M := ⟨.inl ⟨[], upd_same, rfl, .nil⟩, rm.free hp, Step.beside hp, rm.beside hp⟩
    have r0 := rs.keep (keep_new (u := .dK []) hp)
    refine ⟨ρ, M, _, r0, m0.rm, q, fun x1 k H1 M1 s1 m1 rk1 q1 => ?_⟩
    have r1 := r0.keep (s1.keep m0.rm)
    refine ⟨ρ, M1, _, r1, m1, q1, fun y1 v H2 M2 s2 m2 rv1 q2 => ?_⟩
    have r2 := r1.keep (s2.keep m1)
    refine ⟨ρ, M2, _, r2, m2, q2, fun x2 j H3 M3 s3 m3 rk2 q3 => ?_⟩
    have r3 := r2.keep (s3.keep m2)
    refine ⟨ρ, M3, _, r3, m3, q3, fun y2 u H4 M4 s4 m4 rv2 q4 => ?_⟩
    obtain ⟨kk, kj, q5⟩ := q4
    obtain ⟨k1, hk1⟩ := Option.isSome_iff_exists.mp kk
    obtain ⟨k2, hk2⟩ := Option.isSome_iff_exists.mp kj
    obtain rfl := pkey_rel hk1 rk1
    obtain rfl := pkey_rel hk2 rk2
    have st := ((s1.trans s2).trans s3).trans s4
    have m5 := m0.on st m4
    have h4 : H4 p = some (.dK []) := (st p (.dK []) upd_same (rm.free hp)).1
    refine ⟨h4, [(k1, y1), (k2, y2)], rfl, by simp, ?_⟩
    have rv1' := rv1.keep (((s3.trans s4)).keep m2)
    obtain ⟨a1, a2⟩ := putK_rel (kvs := []) (L := []) hk1 rfl .nil rv1'
    obtain ⟨b1, b2⟩ := putK_rel hk2 a1 a2 rv2
    obtain ⟨w, hw, mu⟩ := dic_there m5.dic
    have kW := (m4.hidW (u := .dK (mergeK [] [(k1, y1), (k2, y2)])) hw m5.hid mu).2
    obtain ⟨st6, rm6⟩ := (m5.put hp (acc' := dputD (dputD [] k v) j u) (o := .dK (mergeK [] [(k1, y1), (k2, y2)])) (.inl ⟨_, upd_same, b1, b2.keep kW⟩)).done hp
    exact po (.ref p) (.ref p) _ _ st6 rm6 (.ref p) (q5 p m5.hid)⟩
end

/-! ### d.get(k, x), keys ints and texts -/
def mGet : WM := ⟨fun d ds M Q => ∃ a kvs k z, d = .ref a ∧ ds = [k, z] ∧ M a = some (.dic kvs) ∧ k.pkey.isSome = true ∧ (∀ p ∈ kvs, p.1.pkey.isSome = true) ∧ Q ((dgetD kvs k).getD z) M,
  fun _ _ _ _ _ h ⟨a, kvs, k, z, e1, e2, e3, e4, e5, q⟩ => ⟨a, kvs, k, z, e1, e2, e3, e4, e5, h _ _ q⟩⟩
section
variable {X : Cx}
theorem dm_get (hu : X.A.units + 64 < cLine) : DM X "dict" "get" mGet := ⟨_, PySem.F.plainAttrs_dict, PySem.F.slot_dict_get, PySem.F.type_dict_get, fun pins s σ H x xs v us Q I rx rv ⟨d, ds, M, Q', rd, rds, rm, q, po⟩ => by
  obtain ⟨a, kvs, k, z, rfl, rfl, h0, hk, hks, q⟩ := q
  obtain ⟨y, zz, rfl, ry, rz⟩ := rel2 rds
  obtain ⟨L, hH, q1, q2⟩ := dic_k rm h0 hks
  obtain ⟨kk, hkk⟩ := Option.isSome_iff_exists.mp hk
  obtain rfl := pkey_rel hkk ry
  rw [rel_ref rd] at rx
  cases rx
  obtain ⟨u, r, rfl, ru, rr⟩ := vals2 rv
  have hv := valV_rel hkk q1 q2
  have hr : RelD X.K H ((dgetD kvs k).getD z) ((valV L kk).getD zz) := by
    cases g : dgetD kvs k with
    | none => rw [hv.1 g]; exact rz
    | some w => obtain ⟨v, h1, h2⟩ := hv.2 w g; rw [h1]; exact h2
  exact d_get2 (show X.A.units + 1 < cLine by omega) I (.k hH) ru rr fun w' s' I' r' => ⟨_, H, I', r', po.here rm hr q⟩⟩
end

/-! ### a dict's entries as they lie -/
section
variable {X : Cx} {pins : List (Addr × Obj)} {σ : L2.St} {H : Hp} {s : Shared} {M : Mem}
theorem dic_raw (I : Inv X pins σ H s) (rm : RelM X.prog X.w X.K H M) {a : Addr} {kvs : List (D × D)} (h : M a = some (.dic kvs)) (hk : (∀ p ∈ kvs, p.1.isTup = true) ∨ ∀ p ∈ kvs, p.1.pkey.isSome = true) :
    ∃ (o : Obj) (es : Array DictEntry) (ep : Nat), s.heap.get? a = some o ∧ o.ExactDict ∧ o.data = .dict es ep ∧ es.size = kvs.length ∧ (a == sysModules) = false ∧ kvs.length ≤ sizeLine ∧
      ∃ vs : List V, RelDs X.K H (kvs.map (·.1)) vs ∧ Vals vs (es.toList.map fun en => en.key) := by
  rcases hk with hk | hk
  · obtain ⟨L, ⟨o, es, ep, h1, h2, h3, h4, h5, h6⟩, ⟨vs, e1, e2, e3, e4⟩, hz, hd⟩ := dic_n I rm h hk
    have l1 : kvs.length = L.length := by have := congrArg List.length e1; simpa using this
    refine ⟨o, es, ep, h1, h2, h3, ?_, hd, by omega, _, e2, ?_⟩
    · have := congrArg List.length h4
      rw [List.length_map, Array.length_toList] at this
      omega
    · rw [h4, List.map_map]
      have : ∀ L : List (NestedKey × Addr × Value), Vals (L.map fun p => V.ref p.2.1) (L.map ((fun en : DictEntry => en.key) ∘ entryOfKey (nestedKind X.prog X.w))) := fun L => by
        induction L with
        | nil => exact .nil
        | cons p t ih => exact .cons rfl ih
      exact this L
  · obtain ⟨L, hH, q1, q2⟩ := dic_k rm h hk
    obtain ⟨z, hd, vs, rel, hdo⟩ := dk_of I.hok hH
    obtain ⟨o, es, ep, h1, h2, h3, h4, h5, h6⟩ := hdo
    have l1 : kvs.length = L.length := by have := congrArg List.length q1; simpa using this
    have l2 : L.length = vs.length := Paired.length rel
    have l3 := h5.length
    rw [Array.length_toList] at l3
    have rk : ∀ (kvs : List (D × D)) (L : List (Key × V)), kvs.map (fun p => p.1.pkey) = L.map (fun p => some p.1) → RelDs X.K H (kvs.map (·.1)) (L.map fun p => kV p.1) := fun kvs => by
      induction kvs with
      | nil => intro L e; cases L with | nil => exact .nil | cons q t => simp at e
      | cons p t ih =>
        intro L e
        cases L with
        | nil => simp at e
        | cons q r =>
          rw [List.map_cons, List.map_cons] at e
          injection e with e1 e2
          refine .cons ?_ (ih r e2)
          show RelD X.K H p.1 (kV q.1)
          obtain ⟨p1, p2⟩ := p
          cases p1 <;> simp [D.pkey] at e1 <;> rw [← e1]
          · exact .int _
          · exact .str _
    have kk : ∀ (L : List (Key × V)) (vs : List (Key × Value)) (es : List DictEntry), KV L vs → Pairs (mixKind X.prog X.w) es vs → Vals (L.map fun p => kV p.1) (es.map fun en => en.key) := fun L => by
      induction L with
      | nil => intro vs es k p; cases k; cases p; exact .nil
      | cons q t ih =>
        intro vs es k p
        cases k with
        | cons k1 k2 =>
          cases p with
          | cons p1 p2 p3 => exact .cons (by
            show L2.RelV (kV q.1) _
            rw [k1.1]; exact relV_key p1) (ih _ _ k2 p3)
    exact ⟨o, es, ep, h1, h2, h3, by omega, hd, by omega, _, rk kvs L q1, kk L vs es.toList rel h5⟩
end

/-! ### sorted(d) -/
def sKf (ds : List D) (M : Mem) (Q : D → Mem → Prop) : Prop := ∃ (a : Addr) (kvs : List (D × D)), ds = [.ref a] ∧ M a = some (.dic kvs) ∧ ((∀ p ∈ kvs, p.1.isTup = true) ∨ ∀ p ∈ kvs, p.1.pkey.isSome = true) ∧ PySem.W.AllAlike ((kvs.map (·.1)).map D.py) ∧ PySem.W.Sortable ((kvs.map (·.1)).map D.py) ∧ (∀ x ∈ kvs.map (·.1), x.pl ∧ x.dep ≤ 60) ∧ ∀ p, M p = none → Q (.ref p) (mupd M p (.lst (sortD (kvs.map (·.1)))))
def nSortedK : WN := ⟨sKf, fun _ _ _ _ h ⟨a, kvs, e1, e2, e3, e4, e5, e6, q⟩ => ⟨a, kvs, e1, e2, e3, e4, e5, e6, fun p hp => h _ _ (q p hp)⟩⟩
theorem e_nSortedK (ds : List D) (M : Mem) (Q : D → Mem → Prop) : nSortedK.f ds M Q = ∃ (a : Addr) (kvs : List (D × D)), ds = [.ref a] ∧ M a = some (.dic kvs) ∧ ((∀ p ∈ kvs, p.1.isTup = true) ∨ ∀ p ∈ kvs, p.1.pkey.isSome = true) ∧ PySem.W.AllAlike ((kvs.map (·.1)).map D.py) ∧ PySem.W.Sortable ((kvs.map (·.1)).map D.py) ∧ (∀ x ∈ kvs.map (·.1), x.pl ∧ x.dep ≤ 60) ∧ ∀ p, M p = none → Q (.ref p) (mupd M p (.lst (sortD (kvs.map (·.1))))) := rfl
section
variable {X : Cx}
theorem f_sortedK (hc : X.calm = true) (hu : X.A.units + 64 < cLine) : DN X (.builtin "sorted") nSortedK := ⟨fun pins s σ H xs us Q I rx ⟨ds, M, Q', rds, rm, ⟨a, kvs, e, h0, hk, al, so, hp, q⟩, po⟩ => by
  subst e
  obtain ⟨x, rfl, rd⟩ := rel1 rds
  rw [rel_ref rd] at rx
  obtain ⟨u, rfl, ru⟩ := vals1 rx
  cases ru
  obtain ⟨o, es, ep, g1, g2, g3, g4, g5, g6, vs, rk, rv⟩ := dic_raw I rm h0 hk
  refine PySem.Calls.call_function_entry kind_sorted plain_sorted entry_sorted (args_sorted1 _) ?_
  unfold Builtin.«sorted»
  refine wpAny_bind (m := checkCount "sorted" 1 1 _) (wpAny_pure ?_)
  refine wpAny_bind (PySem.W.kdu_collect (A := X.A.in1) (kdl_raw g5 g2 g3) (I.ok.hd hc) g1 (by omega) fun h' tk acc keep hacc => ?_)
  have ea : acc.toList = es.toList.map fun en => en.key := by
    apply List.ext_getElem?
    intro j
    rw [List.getElem?_map, Array.getElem?_toList, Array.getElem?_toList]
    cases hj : acc[j]? with
    | none =>
      have h1 := Array.getElem?_eq_none_iff.mp hj
      rw [Array.getElem?_eq_none (by rw [← hacc.1]; exact h1)]
      rfl
    | some v =>
      obtain ⟨en, hen, hv⟩ := hacc.2 j v hj
      rw [hen, hv]
      rfl
  have rv' : Vals vs acc.toList := by rw [ea]; exact rv
  have lv := rv'.length
  have lk := rk.length
  rw [List.length_map] at lk
  refine wpAny_bind (wpAny_newList ?_ (by omega))
  have I1 : Inv X pins σ H { s with heap := h', toks := tk } := I.kept keep
  have hn : H h'.objs.size = none := I1.hok.fresh (Nat.le_refl _)
  have er := each_reads I1 rk rv' fun d hd => (hp d hd).1
  have push : ∀ b ob, h'.get? b = some ob → (h'.push { cls := .type "list", data := .seq acc.toList.toArray }).get? b = some ob := fun b ob e => Heap.get?_push_of_some _ e
  refine wpAny_bind (wpAny_holding (wpAny_mono (Q := fun v s' => EP X pins σ Q (.ref h'.objs.size) s') (PySem.W.list_sort_data (s := { s with heap := h'.push { cls := .type "list", data := .seq acc.toList.toArray }, toks := tk }) (a := h'.objs.size) (n := 0) (vs := acc.toList) (bs := kvs.map (·.1)) (enc := D.py) (R := fun u d => ∃ v, RelD X.K H d v ∧ RelV v u)
    (Heap.get?_push_size _ rfl) (each_rel rk rv') (er.mono fun u d ⟨as, r⟩ => ⟨as, PyProof.Rows.Reads.keeps push r, fun hm => by
      obtain ⟨ob, e⟩ := PyProof.On.reads_mem_get r _ hm
      exact absurd (Heap.lt_size e) (Nat.lt_irrefl _)⟩) al so (by rw [List.length_map]; exact g6) (fun b hb => by
        have : b.py.depth ≤ 60 := (hp b hb).2
        show X.A.units + 1 + 1 + b.py.depth < cLine
        omega) fun out ho eo => ?_) (fun _ s' x => ?_) fun _ _ e => e))
  · obtain ⟨ws, r1, r2⟩ := rel_each eo
    obtain ⟨c, hc'⟩ := PyProof.Rows.sortedHeap_at (h := h'.push { cls := .type "list", data := .seq acc.toList.toArray }) (a := h'.objs.size) (vs := acc.toList) (n := 0) (out := out.toArray) (Heap.get?_push_size _ rfl)
    have hlen : ws.length ≤ sizeLine := by rw [r2.length, ho, List.length_map]; exact g6
    refine ⟨.ref _, _, I1.laid (a := h'.objs.size) (t' := tk) (o := .lst ws) (fun b ob e => ?_) (Nat.le_refl _) ⟨hlen, out, c, r2, hc'⟩, rfl, po _ (.ref _) _ _ (Step.new rm hn (.lst _)) (rm.laid hn (keep_new hn) ⟨ws, upd_same, r1.keep (keep_new hn)⟩) (.ref _) (q _ (rm.free hn))⟩
    have lt := Heap.lt_size e
    rw [PyProof.Rows.sortedHeap_old (Nat.ne_of_lt lt) (by rw [Heap.size_push]; exact Nat.lt_succ_of_lt lt)]
    exact push b ob e
  · exact wpAny_pure ⟨_, rfl, x⟩⟩
end

/-! ### a dict with tuple keys that stands while it is gone over -/
section
variable {X : Cx} {pins : List (Addr × Obj)} {σ : L2.St} {H : Hp} {s : Shared} {M : Mem} {a : Addr} {t : List (NestedKey × Addr × Value) × Obj}
theorem fz_at (I : Inv X pins σ H s) (h : H a = some (FzD X.prog X.w a t)) : (a == sysModules) = false ∧ t.1.length ≤ sizeLine ∧ ∃ (es : Array DictEntry) (ep : Nat), s.heap.get? a = some t.2 ∧ t.2.ExactDict ∧ t.2.data = .dict es ep ∧ es.size = t.1.length ∧ (t.1.map (·.1)).Nodup ∧ es.toList = t.1.map (entryOfKey (nestedKind X.prog X.w)) := by
  obtain ⟨⟨z, hd, es, ep, h1, h2, h3, h4, h5⟩, _⟩ := (show ObjOk X.prog X.w H s.heap a (FzD X.prog X.w a t) from I.hok a _ h)
  refine ⟨hd, z, es, ep, h1, h2, h3, ?_, h5, h4⟩
  have := congrArg List.length h4
  rw [List.length_map, Array.length_toList] at this
  exact this
theorem fz_entry {es : Array DictEntry} {i : Nat} {p : NestedKey × Addr × Value} (h : es.toList = t.1.map (entryOfKey (nestedKind X.prog X.w))) (hp : t.1[i]? = some p) : ∃ hi : i < es.size, es[i].key = .ref p.2.1 ∧ es[i].val = p.2.2 := by
  have e : es[i]? = some (entryOfKey (nestedKind X.prog X.w) p) := by rw [← Array.getElem?_toList, h, List.getElem?_map, hp]; rfl
  obtain ⟨hi, e2⟩ := Array.getElem?_eq_some_iff.mp e
  exact ⟨hi, by rw [e2]; rfl, by rw [e2]; rfl⟩
/-- a dict with tuple keys is taken as it stands -/
theorem fz_write (I : Inv X pins σ H s) (rm : RelM X.prog X.w X.K H M) {kvs : List (D × D)} (h : M a = some (.dic kvs)) (hk : ∀ p ∈ kvs, p.1.isTup = true) :
    ∃ t, Inv X pins σ (upd H a (FzD X.prog X.w a t)) s ∧ RelM X.prog X.w X.K (upd H a (FzD X.prog X.w a t)) (mupd M a (.fd kvs t)) := by
  obtain ⟨L, ⟨o, es, ep, h1, h2, h3, h4, h5, h6⟩, ⟨vs, e1, e2, e3, e4⟩, hz, hd⟩ := dic_n I rm h hk
  obtain ⟨u, hu, mu⟩ := rm.mut h
  have kW := rm.keepW (u := FzD X.prog X.w a (L, o)) h
  refine ⟨(L, o), ?_, rm.write h (fun _ z => nomatch z) ⟨vs, upd_same, e1, e2.keep kW, ⟨hk, fun p hp => (h5 p hp).2⟩, e3.keep kW, e4⟩⟩
  exact d_write (t' := s.toks) I (by rw [hu]; exact mu) (Heap.SameBut.refl _ _) ⟨o, h1⟩ ⟨⟨hz, hd, es, ep, h1, h2, h3, h4, h6⟩, ⟨o, h1⟩, fun _ _ ⟨z, hd, es, ep, g1, g⟩ k => ⟨z, hd, es, ep, k _ g1, g⟩⟩
end

/-- its keys, in the order in which they lie -/
def ItK (P : Program) (w : World) (a : Addr) (t : List (NestedKey × Addr × Value) × Obj) : It where
  go i H := H a = some (FzD P w a t) ∧ i < t.1.length
  yld i H x H' := H' = H ∧ ∃ p, t.1[i]? = some p ∧ x = .ref p.2.1
  stop i H := H a = some (FzD P w a t) ∧ t.1.length ≤ i
/-- its pairs: a new tuple each time -/
def ItP (P : Program) (w : World) (a : Addr) (t : List (NestedKey × Addr × Value) × Obj) : It where
  go i H := H a = some (FzD P w a t) ∧ i < t.1.length ∧ ∃ v, ∀ p, t.1[i]? = some p → RelV v p.2.2
  yld i H x H' := ∃ T p v, t.1[i]? = some p ∧ RelV v p.2.2 ∧ x = .ref T ∧ H T = none ∧ H' = upd H T (.tup [.ref p.2.1, v])
  stop i H := H a = some (FzD P w a t) ∧ t.1.length ≤ i
section
variable {X : Cx} {tg : Expr} {a : Addr} {t : List (NestedKey × Addr × Value) × Obj} {es : Array DictEntry} {ep : Nat}
theorem turn_k (it : Addr) (hod : t.2.data = .dict es ep) : Turn X.prog X.w X.K tg (ItK X.prog X.w a t) [it] it (fun i h => h.IsKeyIter it a i t.1.length ep) where
  mem := List.mem_singleton.mpr rfl
  obj i h st b hb := by
    obtain ⟨ob, g, _, d⟩ := st
    rw [List.mem_singleton.mp hb]
    exact ⟨ob, g, fun v z => by rw [d] at z; cases z⟩
  keep i h h' st k := by
    obtain ⟨ob, g, r⟩ := st
    exact ⟨ob, k it (List.mem_singleton.mpr rfl) ob g, r⟩
  self A i s Q E st h := wpAny_pyIter_keyiter st h
  item Y hP hw hK hc i pins s σ H E I hf st hg := by
    have fo := hf it (List.mem_singleton.mpr rfl)
    have hl := hg.2
    have I' : Inv Y pins σ H s := I
    have hfz : H a = some (FzD Y.prog Y.w a t) := by rw [hP, hw]; exact hg.1
    obtain ⟨_, _, es', ep', g1, g2, g3, g4, _, g5⟩ := fz_at I' hfz
    rw [hod] at g3
    cases g3
    obtain ⟨p, hp⟩ : ∃ p, t.1[i]? = some p := ⟨_, List.getElem?_eq_getElem hl⟩
    obtain ⟨hi, k1, _⟩ := fz_entry g5 hp
    refine next_key_item (od := t.2) st g1 hod g4 (Array.getElem?_eq_getElem hi) fun h' st' sb => ⟨_, rfl, ?_⟩
    obtain ⟨ob, go, gc, gd⟩ := id st'
    refine go_of (s := { s with heap := h' }) go gc gd (by decide) ⟨.ref p.2.1, H, I'.turned (t' := s.toks) (fun b o nb e => (sb.2 b nb).trans e) fo.1 fo.2.1 fo.2.2.2.1 fo.2.2.2.2.1 fo.2.2.2.2.2, k1, ⟨rfl, p, hp, rfl⟩, st', fun b hb => (hf b hb).1⟩
  done Y hP hw hK hc i pins s σ H E I hf st hg := by
    have fo := hf it (List.mem_singleton.mpr rfl)
    have hfz : H a = some (FzD Y.prog Y.w a t) := by rw [hP, hw]; exact hg.1
    obtain ⟨_, _, es', ep', g1, g2, g3, g4, _, g5⟩ := fz_at I hfz
    rw [hod] at g3
    cases g3
    exact next_key_end (I.ok.hd hc) st g1 hod g4 hg.2 fun h' eb => ⟨rfl, I.turned (t' := s.toks) (fun b o nb e => eb b o nb e) fo.1 fo.2.1 fo.2.2.2.1 fo.2.2.2.2.1 fo.2.2.2.2.2⟩
theorem turn_p {elts : List Expr} {kk : Nat} {tpos : Pos} (it : Addr) (hod : t.2.data = .dict es ep) : Turn X.prog X.w X.K (.Tuple elts kk tpos) (ItP X.prog X.w a t) [it] it (fun i h => ∃ k v, IsItemIter h it a i t.1.length ep k v) where
  mem := List.mem_singleton.mpr rfl
  obj i h st b hb := by
    obtain ⟨k, v, g⟩ := st
    rw [List.mem_singleton.mp hb]
    exact ⟨_, g, fun v z => nomatch z⟩
  keep i h h' st k := st.imp fun _ st => st.imp fun _ g => k it (List.mem_singleton.mpr rfl) _ g
  self A i s Q E st h := by
    obtain ⟨_, _, g⟩ := st
    exact PySem.W.kcp_self g h
  item Y hP hw hK hc i pins s σ H E I hf st hg := by
    have fo := hf it (List.mem_singleton.mpr rfl)
    obtain ⟨h0, hl, v, hv⟩ := hg
    have hfz : H a = some (FzD Y.prog Y.w a t) := by rw [hP, hw]; exact h0
    obtain ⟨_, _, es', ep', g1, g2, g3, g4, _, g5⟩ := fz_at I hfz
    rw [hod] at g3
    cases g3
    obtain ⟨p, hp⟩ : ∃ p, t.1[i]? = some p := ⟨_, List.getElem?_eq_getElem hl⟩
    obtain ⟨hi, k1, k2⟩ := fz_entry g5 hp
    obtain ⟨ko, vo, hit⟩ := st
    have lt : it < s.heap.objs.size := Heap.lt_size hit
    rw [← g4] at hit
    refine PySem.wpAny_pyNext_items_item_raw hit ⟨t.2, g1, g2, hod⟩ hi fun h' out new size old => ⟨_, rfl, ?_⟩
    refine wpAny_letOwnedTupleGo_items (s := { s with heap := h' }) out fun h2 hit2 sb => ?_
    have tup : h2.get? s.heap.objs.size = some { cls := .type "tuple", data := .seq #[es[i].key, es[i].val] } := (sb.2 _ (Nat.ne_of_gt lt)).trans new
    have nw : ObjOk Y.prog Y.w (upd H s.heap.objs.size (.tup [.ref p.2.1, v])) h2 s.heap.objs.size (.tup [.ref p.2.1, v]) :=
      ⟨by show 2 ≤ sizeLine; decide, [es[i].key, es[i].val], .cons k1 (.cons (by rw [k2]; exact hv p hp) .nil), ⟨_, tup, rfl, _, rfl⟩⟩
    have I2 := I.turnedNew (t' := s.toks) (ch := [it]) (h' := h2) (fun b o nb e => (sb.2 b (fun z => nb (List.mem_singleton.mpr z))).trans (old b o (fun z => nb (List.mem_singleton.mpr z)) e)) hf (Nat.le_refl _) nw
    refine ⟨.ref s.heap.objs.size, _, I2, rfl, ⟨_, p, v, hp, hv p hp, rfl, I.hok.fresh (Nat.le_refl _), rfl⟩, ⟨_, _, by rw [← g4]; exact hit2⟩, fun b hb => ?_⟩
    rw [List.mem_singleton.mp hb, upd_ne (Nat.ne_of_lt lt)]
    exact fo.1
  done Y hP hw hK hc i pins s σ H E I hf st hg := by
    have fo := hf it (List.mem_singleton.mpr rfl)
    have hfz : H a = some (FzD Y.prog Y.w a t) := by rw [hP, hw]; exact hg.1
    obtain ⟨_, _, es', ep', g1, g2, g3, g4, _, g5⟩ := fz_at I hfz
    rw [hod] at g3
    cases g3
    obtain ⟨ko, vo, hit⟩ := st
    rw [← g4] at hit
    exact PySem.wpAny_pyNext_items_end_raw (I.ok.hd hc) hit ⟨t.2, g1, g2, hod⟩ (by rw [g4]; exact hg.2) fun h' eb => ⟨rfl, I.turned (t' := s.toks) (fun b o nb e => eb b o nb e) fo.1 fo.2.1 fo.2.2.2.1 fo.2.2.2.2.1 fo.2.2.2.2.2⟩
end

def iKyF (d : D) (M : Mem) (Q : List D → (Mem → Prop) → Mem → Prop) : Prop := match d with
  | .ref a => ∃ kvs, M a = some (.dic kvs) ∧ (∀ p ∈ kvs, p.1.isTup = true) ∧ ∀ t, Q (kvs.map (·.1)) (fun M => M a = some (.fd kvs t)) (mupd M a (.fd kvs t))
  | _ => False
/-- for k in d, d from now on as it stands -/
def iKy (e : WE) : WI := ⟨fun ρ M Q => e.f ρ M fun d M1 => iKyF d M1 Q, fun ρ M Q Q' h q => e.mono _ _ _ _ (fun d M q => by
  cases d <;> first | exact q.elim | (obtain ⟨kvs, e1, e2, q⟩ := q; exact ⟨kvs, e1, e2, fun t => h _ _ _ (q t)⟩)) q⟩
theorem e_iKy (e : WE) (ρ : Sl) (M : Mem) (Q : List D → (Mem → Prop) → Mem → Prop) : (iKy e).f ρ M Q = (e.f ρ M fun d M1 => iKyF d M1 Q) := rfl
theorem iky_at {a : Addr} {kvs : List (D × D)} {M : Mem} {Q : List D → (Mem → Prop) → Mem → Prop} (h : M a = some (.dic kvs)) (hk : ∀ p ∈ kvs, p.1.isTup = true) (q : ∀ t, Q (kvs.map (·.1)) (fun M => M a = some (.fd kvs t)) (mupd M a (.fd kvs t))) : iKyF (.ref a) M Q := ⟨kvs, h, hk, q⟩
def iPrF (d : D) (M : Mem) (Q : List D → (Mem → Prop) → Mem → Prop) : Prop := match d with
  | .ref a => ∃ kvs t, M a = some (.fd kvs t) ∧ Q (kvs.map fun p => .tup [p.1, p.2]) (fun M => M a = some (.fd kvs t)) M
  | _ => False
/-- for k, v in d.items(), d standing -/
def iPr (e : WE) : WI := ⟨fun ρ M Q => e.f ρ M fun d M1 => iPrF d M1 Q, fun ρ M Q Q' h q => e.mono _ _ _ _ (fun d M q => by
  cases d <;> first | exact q.elim | (obtain ⟨kvs, t, e1, q⟩ := q; exact ⟨kvs, t, e1, h _ _ _ q⟩)) q⟩
theorem e_iPr (e : WE) (ρ : Sl) (M : Mem) (Q : List D → (Mem → Prop) → Mem → Prop) : (iPr e).f ρ M Q = (e.f ρ M fun d M1 => iPrF d M1 Q) := rfl
theorem ipr_at {a : Addr} {kvs : List (D × D)} {t : List (NestedKey × Addr × Value) × Obj} {M : Mem} {Q : List D → (Mem → Prop) → Mem → Prop} (h : M a = some (.fd kvs t)) (q : Q (kvs.map fun p => .tup [p.1, p.2]) (fun M => M a = some (.fd kvs t)) M) : iPrF (.ref a) M Q := ⟨kvs, t, h, q⟩
/-- d[k], d standing -/
def rIxZ : W2 := ⟨fun d e M Q => ∃ a kvs t x, d = .ref a ∧ M a = some (.fd kvs t) ∧ e.isTup = true ∧ (∃ k, e.key = some k ∧ k.depth ≤ 8) ∧ dgetD kvs e = some x ∧ Q x M,
  fun _ _ _ _ _ h ⟨a, kvs, t, x, e1, e2, e3, e4, e5, q⟩ => ⟨a, kvs, t, x, e1, e2, e3, e4, e5, h _ _ q⟩⟩
theorem e_rIxZ (d e : D) (M : Mem) (Q : D → Mem → Prop) : rIxZ.f d e M Q = ∃ a kvs t x, d = .ref a ∧ M a = some (.fd kvs t) ∧ e.isTup = true ∧ (∃ k, e.key = some k ∧ k.depth ≤ 8) ∧ dgetD kvs e = some x ∧ Q x M := rfl
theorem ixz_at {a : Addr} {kvs : List (D × D)} {t : List (NestedKey × Addr × Value) × Obj} {e x : D} {k : NestedKey} {M : Mem} {Q : D → Mem → Prop} (h : M a = some (.fd kvs t)) (he : e.isTup = true) (hk : e.key = some k) (hd : k.depth ≤ 8) (hx : dgetD kvs e = some x) (q : Q x M) : rIxZ.f (.ref a) e M Q := ⟨a, kvs, t, x, rfl, h, he, ⟨k, hk, hd⟩, hx, q⟩
section
variable {P : Program} {w : World} {K : PySem.W.Frag} {H : Hp} {a : Addr} {kvs : List (D × D)} {t : List (NestedKey × Addr × Value) × Obj}
theorem itok_k : ItOk P w K (ItK P w a t) (kvs.map (·.1)) (fun M => M a = some (.fd kvs t)) H := fun i H1 M1 _ m1 st => by
  obtain ⟨vs, h, q1, q2, q3, q4, q5⟩ := m1 a _ st
  have hl : kvs.length = t.1.length := by have := congrArg List.length q1; simpa using this
  refine ⟨fun hi => ⟨h, by rw [← hl]; simpa using hi⟩, fun d hd => ?_⟩
  have hi : i < t.1.length := by have := (List.getElem?_eq_some_iff.mp hd).1; rw [List.length_map] at this; omega
  refine ⟨⟨h, hi⟩, fun x H' hy => ?_⟩
  obtain ⟨rfl, p, hp, rfl⟩ := hy
  obtain ⟨v, hv, rv⟩ := q2.get hd
  rw [List.getElem?_map, hp] at hv
  cases hv
  exact ⟨Step.refl, m1, rv⟩
theorem itok_p : ItOk P w K (ItP P w a t) (kvs.map fun p => .tup [p.1, p.2]) (fun M => M a = some (.fd kvs t)) H := fun i H1 M1 _ m1 st => by
  obtain ⟨vs, h, q1, q2, q3, q4, q5⟩ := m1 a _ st
  have hl : kvs.length = t.1.length := by have := congrArg List.length q1; simpa using this
  refine ⟨fun hi => ⟨h, by rw [← hl]; simpa using hi⟩, fun d hd => ?_⟩
  rw [List.getElem?_map] at hd
  obtain ⟨kv, hkv, rfl⟩ := Option.map_eq_some_iff.mp hd
  have hi : i < t.1.length := by have := (List.getElem?_eq_some_iff.mp hkv).1; omega
  have h1 : (kvs.map (·.1))[i]? = some kv.1 := by rw [List.getElem?_map, hkv]; rfl
  have h2 : (kvs.map (·.2))[i]? = some kv.2 := by rw [List.getElem?_map, hkv]; rfl
  obtain ⟨v1, hv1, rv1⟩ := q2.get h1
  obtain ⟨v2, hv2, rv2⟩ := q4.get h2
  obtain ⟨u2, hu2, ru2⟩ := q5.get hv2
  refine ⟨⟨h, hi, v2, fun p hp => ?_⟩, fun x H' hy => ?_⟩
  · rw [List.getElem?_map, hp] at hu2
    cases hu2
    exact ru2
  · obtain ⟨T, p, v, hp, rv, rfl, hT, rfl⟩ := hy
    rw [List.getElem?_map, hp] at hv1 hu2
    cases hv1
    cases hu2
    rw [RelV.inj rv ru2]
    exact new_tup m1 hT (.cons rv1 (.cons rv2 .nil))
end
section
variable {X : Cx} {tg l : Expr} {we : WE}
theorem di_ky (hl : DE X l we) : DI X tg l (iKy we) := ⟨⟨fun pins s σ H R I ⟨ρ, M, Q', rs, rm, q, po⟩ => by
  refine thn (hl.pe.run pins s σ H (fun v H1 => ∃ d M1, Step H M H1 M1 ∧ RelM X.prog X.w X.K H1 M1 ∧ RelD X.K H1 d v ∧ iKyF d M1 Q') I ⟨ρ, M, _, rs, rm, q, fun v d H1 M1 s1 m1 r1 q1 => ⟨d, M1, s1, m1, r1, q1⟩⟩) fun u s1 ⟨x, H1, I1, r1, d, M1, st1, m1, rd, q1⟩ => ?_
  cases rd with
  | ref a =>
    obtain ⟨kvs, e, hk, q2⟩ := q1
    cases r1
    obtain ⟨t, I2, m2⟩ := fz_write I1 m1 e hk
    obtain ⟨lo, hz, es, ep, g1, g2, g3, g4, _, g5⟩ := fz_at I2 upd_same
    refine iter_keys lo g1 g2 g3 (pi_one (tk := s1.toks) I2 _ (turn_k _ g3) ⟨_, Heap.get?_push_size _ rfl, rfl, ?_⟩ (po _ _ _ _ _ (st1.trans (Step.write e)) m2 (q2 t) itok_k))
    rw [g4] <;> rfl
  | _ => exact False.elim q1⟩⟩
theorem di_pr {o : Expr} {apos cpos tpos : Pos} {elts : List Expr} {kk : Nat} (ho : DE X o we) (hbase : attributeBase o "items" X.env (eval o X.env) = eval o X.env := by rfl) (hline : (apos.endLine == cpos.line) = true := by rfl) :
    DI X (.Tuple elts kk tpos) (.Call (.Attribute o "items" apos) [] [] cpos) (iPr we) := ⟨⟨fun pins s σ H R I ⟨ρ, M, Q', rs, rm, q, po⟩ => by
  refine wpAny_Call_method (T := "dict") (id := "dict.items") hbase rfl hline PySem.F.plainAttrs_dict PySem.F.slot_dict_items PySem.F.type_dict_items
    (thn (ho.pe.run pins s σ H (fun v H1 => ∃ d M1, Step H M H1 M1 ∧ RelM X.prog X.w X.K H1 M1 ∧ RelD X.K H1 d v ∧ iPrF d M1 Q') I ⟨ρ, M, _, rs, rm, q, fun v d H1 M1 s1 m1 r1 q1 => ⟨d, M1, s1, m1, r1, q1⟩⟩) fun u s1 ⟨x, H1, I1, r1, d, M1, st1, m1, rd, q1⟩ => ?_)
  cases rd with
  | ref a =>
    obtain ⟨kvs, t, e, q2⟩ := q1
    cases r1
    obtain ⟨vs, hfz, _⟩ := m1 a _ e
    obtain ⟨lo, hz, es, ep, g1, g2, g3, g4, _, g5⟩ := fz_at I1 hfz
    refine ⟨⟨_, g1, g2.1⟩, fun b z => by cases z; exact ⟨_, g1, g2.2.1⟩, ?_⟩
    have I2 : Inv X pins σ H1 { s1 with heap := s1.heap.push { cls := .type "dict_items", data := .fields #[.ref a] } } := I1.kept (t' := s1.toks) fun b o z => Heap.get?_push_of_some _ z
    have raw : s1.heap.DictRaw a es ep := ⟨_, g1, g2, g3⟩
    have fin : wpAny (model X.prog X.w) X.A (pyIter (.ref s1.heap.objs.size)) (PIE X pins σ (.Tuple elts kk tpos) R) X.xe { s1 with heap := s1.heap.push { cls := .type "dict_items", data := .fields #[.ref a] } } := by
      refine PySem.wpAny_pyIter_items_raw (d := a) ⟨_, Heap.get?_push_size _ rfl, rfl, rfl⟩ (show Heap.DictRaw _ a es ep from ⟨_, Heap.get?_push_of_some _ g1, g2, g3⟩) (pi_one (tk := s1.toks) I2 _ (turn_p _ g3) ⟨.none, .none, ?_⟩ (po _ _ _ _ _ st1 m1 q2 itok_p))
      rw [← g4]
      exact Heap.get?_push_size _ rfl
    exact method_meetsIn PySem.F.slot_dict_items PySem.F.entry_dict_items rfl (PySem.evalArgs_none ⟨rfl, ⟨_, g1, g2.1⟩, PySem.F.args_dict_items_1 _, _, PySem.meets_dict_items_raw a lo, ⟨⟨es, ep, raw⟩, fin⟩⟩)
  | _ => exact False.elim q1⟩⟩
theorem d_ixz (hu : X.A.units + 64 < cLine) : DIx X rIxZ := ⟨by
  intro value slice pins s σ H x y v u Q I rx ry ⟨d, e, M, Q', rd, re, rm, ⟨a, kvs, t, z, ed, h0, k1, ⟨k, k3, k4⟩, g, q⟩, po⟩ hs
  subst ed
  rw [rel_ref rd] at rx
  cases rx
  obtain ⟨vs, hfz, q1, q2, q3, q4, q5⟩ := rm a _ h0
  obtain ⟨lo, hz, es, ep, g1, g2, g3, g4, g6, g5⟩ := fz_at I hfz
  have en : EntN X.K H kvs t.1 := ⟨vs, q1, q2, q4, q5⟩
  obtain ⟨b, u', v', h1, h2, h3⟩ := (en.at k3).2 z g
  obtain ⟨b', rfl⟩ := tup_rel k1 re
  cases ry
  have hn := Inv.nested I k3 re rfl
  have dd : s.heap.DictOfH (nestedKind X.prog X.w) a t.1 := ⟨_, es, ep, g1, g2, g3, g5, fun p hp => by
    obtain ⟨i, hi⟩ := List.mem_iff_getElem?.mp hp
    have hk1 : (kvs.map fun p => p.1.key)[i]? = some (some p.1) := by rw [q1, List.getElem?_map, hi]; rfl
    rw [List.getElem?_map] at hk1
    obtain ⟨r, hr1, hr2⟩ := Option.map_eq_some_iff.mp hk1
    have hv1 : (t.1.map fun p => V.ref p.2.1)[i]? = some (.ref p.2.1) := by rw [List.getElem?_map, hi]; rfl
    obtain ⟨dd, hd1, hd2⟩ := q2.getV hv1
    rw [List.getElem?_map, hr1] at hd1
    cases hd1
    exact ⟨Inv.nested I hr2 hd2 rfl, q3.2 p hp⟩, g6⟩
  exact tail_any ⟨_, g1, g2.1⟩ PySem.F.slot_dict_getitem.lookup (wpAny_getItem_heap (knd := nestedKind X.prog X.w) (k := k) (show X.A.in1.units + 8 < cLine by show X.A.units + 1 + 8 < cLine; omega) ⟨hn, k4⟩ dd h1 ⟨v', H, I.tok _, h3, po.here rm h2 q⟩) hs⟩
end
end MP

namespace MP
open PySem PySem.Spec PyProof.Rows L2

/-! ### sorted(xs), a single item of any kind too -/
/-- one value can be sorted, whatever tuple it is -/
theorem sorts_one {prog : Program} {w : World} {A : Around} {s : Shared} {v : Value} {d : PyData} {as : List Addr} (r : Reads s.heap v d as) (al : PySem.W.alike d d = true) (hn : d ≠ .none) (hu : A.units + d.depth < cLine) : PySem.W.SortsAt prog w A s (PySem.W.dataKind s.heap [d]) [v] where
  keys u hu := by
    rw [List.mem_singleton.mp hu]
    exact ⟨_, PySem.W.dataKind_some (fun a ha b hb => by rw [List.mem_singleton.mp ha, List.mem_singleton.mp hb]; exact al) (List.mem_singleton.mpr rfl) r⟩
  kind := ⟨general', fun E x y a b Q ha hb hq => by
    obtain ⟨d1, as1, h1, r1, rfl⟩ := PySem.W.dataKind_inv ha
    obtain ⟨d2, as2, h2, r2, rfl⟩ := PySem.W.dataKind_inv hb
    rw [List.mem_singleton.mp h1] at r1 hq
    rw [List.mem_singleton.mp h2] at r2 hq
    exact PySem.W.oneLt_alike (f := false) (fun z => nomatch z) r1 r2 al hn (by rw [Nat.min_self]; exact hu) hq, fun h2 => absurd h2 (by simp)⟩
def nSortedS : WN := ⟨fun ds M Q => nSorted.f ds M Q ∨ ∃ a x, ds = [.ref a] ∧ M a = some (.lst [x]) ∧ x.pl ∧ PySem.W.alike x.py x.py = true ∧ x.py ≠ .none ∧ x.dep ≤ 60 ∧ ∀ p, M p = none → Q (.ref p) (mupd M p (.lst [x])),
  fun _ _ _ _ h q => q.imp (nSorted.mono _ _ _ _ h) fun ⟨a, x, e1, e2, e3, e4, e5, e6, q⟩ => ⟨a, x, e1, e2, e3, e4, e5, e6, fun p hp => h _ _ (q p hp)⟩⟩
theorem e_nSortedS (ds : List D) (M : Mem) (Q : D → Mem → Prop) : nSortedS.f ds M Q = (nSorted.f ds M Q ∨ ∃ a x, ds = [.ref a] ∧ M a = some (.lst [x]) ∧ x.pl ∧ PySem.W.alike x.py x.py = true ∧ x.py ≠ .none ∧ x.dep ≤ 60 ∧ ∀ p, M p = none → Q (.ref p) (mupd M p (.lst [x]))) := rfl
section
variable {X : Cx}
theorem f_sortedS (hu : X.A.units + 64 < cLine) : DN X (.builtin "sorted") nSortedS := ⟨fun pins s σ H xs us Q I rx ⟨ds, M, Q', rds, rm, q, po⟩ => by
  rcases q with q | ⟨a, x, e, h0, pl, al, hn, hp, q⟩
  · exact (f_sorted hu).op pins s σ H xs us Q I rx ⟨ds, M, Q', rds, rm, q, po⟩
  subst e
  obtain ⟨y, rfl, rd⟩ := rel1 rds
  rw [rel_ref rd] at rx
  obtain ⟨u, rfl, ru⟩ := vals1 rx
  cases ru
  obtain ⟨vs, hH, hr⟩ := rm _ _ h0
  obtain ⟨v, rfl, rv⟩ := rel1 hr
  obtain ⟨its, rits, hl, hz⟩ := I.list (.inl (.inl hH))
  obtain ⟨z, rfl, rz⟩ := vals1 rits
  obtain ⟨as, g⟩ := Inv.rd I rv pl rz
  have hd : x.py.depth ≤ 60 := hp
  have g2 : Reads (PySem.W.sortingHeap (PySem.W.copyHeap s.heap [z]) (s.heap.objs.size + 1) [z]) z x.py as := PyProof.Rows.Reads.keeps (fun _ _ e => PySem.W.sorting_copy_old e) g
  refine PySem.W.sorted_vals hl.isList (sorts_one (s := { s with heap := PySem.W.sortingHeap (PySem.W.copyHeap s.heap [z]) (s.heap.objs.size + 1) [z] }) g2 al hn (by show X.A.units + 1 + 1 + x.py.depth < cLine; omega)) (by rw [sizeLine_eq]; show 1 ≤ _; decide) ?_
  have srt := PySem.W.sortVals_data (h' := PySem.W.sortingHeap (PySem.W.copyHeap s.heap [z]) (s.heap.objs.size + 1) [z]) (R := fun u d => u = z) (enc := D.py) (vs := [z]) (bs := [x]) false (.cons rfl .nil) (.cons ⟨as, g2⟩ .nil) (fun a ha b hb => by
    rw [show a = x.py by simpa using ha, show b = x.py by simpa using hb]; exact al)
  rw [List.mergeSort_singleton] at srt
  have one : ∀ (l : List Value), PySem.W.EachIs (fun u (_ : D) => u = z) l [x] → l = [z] := fun l h => by
    cases h with
    | cons h t => cases t; rw [h]
  have eo := one _ srt
  rw [show [D.py x] = [x].map D.py from rfl, eo]
  obtain ⟨ep, he'⟩ := PyProof.Rows.sortedAll_at s.heap [z] [z].toArray
  have hnn : H (s.heap.objs.size + 1) = none := I.hok.fresh (Nat.le_succ _)
  exact ⟨.ref _, _, I.laid (t' := s.toks) (o := .lst [v]) (fun _ _ => PyProof.Rows.sortedAll_old) (Nat.le_succ _) ⟨by show 1 ≤ sizeLine; rw [sizeLine_eq]; decide, [z], ep, .cons rz .nil, he'⟩, rfl,
    po _ (.ref _) _ _ (Step.new rm hnn (.lst [x])) (rm.laid hnn (keep_new hnn) ⟨[v], upd_same, .cons (rv.keep (keep_new hnn)) .nil⟩) (.ref _) (q _ (rm.free hnn))⟩⟩
end
/-! ### the order of data of one kind -/
theorem sort_perm {α : Type} (enc : α → D) (L : List α) : ∃ L' : List α, sortD (L.map enc) = L'.map enc ∧ L'.Perm L := by
  refine ⟨L.mergeSort fun a b => PySem.W.dataLe false D.py (enc a) (enc b), ?_, List.mergeSort_perm _ _⟩
  unfold sortD
  rw [List.map_mergeSort]
  intro a _ b _
  rfl
/-- tuples of ints -/
theorem alike_ints : ∀ (xs ys : List Int), PySem.W.alike (D.tup (xs.map D.int)).py (D.tup (ys.map D.int)).py = true := fun xs ys => by
  simp only [D.py, PySem.W.alike]
  induction xs generalizing ys with
  | nil => cases ys <;> simp [D.pys, PySem.W.alikeAll]
  | cons x xs ih =>
    cases ys with
    | nil => simp [D.pys, PySem.W.alikeAll]
    | cons y ys => simp only [List.map_cons, D.pys, PySem.W.alikeAll, D.py, PySem.W.alike, Bool.true_and]; exact ih ys
theorem sort_ints {α : Type} (enc : α → D) (f : α → List Int) (he : ∀ a, enc a = .tup ((f a).map D.int)) (L : List α) (hn : ∀ a ∈ L, f a ≠ []) : PySem.W.AllAlike ((L.map enc).map D.py) ∧ PySem.W.Sortable ((L.map enc).map D.py) ∧ ∀ x ∈ L.map enc, x.pl ∧ x.dep ≤ 60 := by
  refine ⟨fun d hd d' hd' => ?_, .inl fun d hd => ?_, fun x hx => ?_⟩
  · simp only [List.map_map, List.mem_map, Function.comp] at hd hd'
    obtain ⟨a, _, rfl⟩ := hd
    obtain ⟨b, _, rfl⟩ := hd'
    rw [he, he]; exact alike_ints _ _
  · simp only [List.map_map, List.mem_map, Function.comp] at hd
    obtain ⟨a, ha, rfl⟩ := hd
    rw [he]
    have := hn a ha
    cases e : f a with
    | nil => exact absurd e this
    | cons x xs => exact ⟨_, _, rfl⟩
  · obtain ⟨a, _, rfl⟩ := List.mem_map.mp hx
    rw [he]
    refine ⟨nb_pl _ (nbs_map D.int (fun _ => rfl) _), ?_⟩
    rw [dep_tup]
    have := deps_map D.int 0 (fun _ => Nat.le_refl _) (f a)
    omega
/-! ### promises that name what the arguments are -/
def nOf {α : Type} (C : α → List D → Mem → Prop) (g : α → Mem → D → Prop) : WN := ⟨fun ds M Q => ∃ x, C x ds M ∧ ∀ d, g x M d → Q d M, fun _ _ _ _ h ⟨x, c, q⟩ => ⟨x, c, fun d hd => h _ _ (q d hd)⟩⟩
theorem law_of {n k : Nat} {b : WS} {α : Type} {C : α → List D → Mem → Prop} {g : α → Mem → D → Prop} (h : ∀ x ds M, Cons M → C x ds M → ds.length = k ∧ ∀ R : D → Mem → Prop, (∀ d M', g x M d → Sub M M' → R d M') → b.f (rtE R) (startD n ds) M) : FnLaw n k b (nOf C g) := fun P w K H ds M Q rm ⟨x, c, q⟩ => by
  obtain ⟨h1, h2⟩ := h x ds M rm.cons c
  refine ⟨h1, M, rm, fun _ z => z, b.mono (rtE (RSome (g x M) M)) _ _ _ ⟨fun _ M' z => ⟨M, Vw.sub rm.cons z.2, q _ z.1⟩, fun d M' z => ⟨M, Vw.sub rm.cons z.2, q _ z.1⟩, fun _ _ z => z, fun _ _ z => z⟩ (h2 (RSome (g x M) M) fun d M' a s => ⟨a, s⟩)⟩
/-- .. and give back a new object -/
def nNewOf {α : Type} (C : α → List D → Mem → Prop) (g : α → Mem → MO → Prop) : WN := ⟨fun ds M Q => ∃ x, C x ds M ∧ ∀ o, g x M o → ∀ p, M p = none → Q (.ref p) (mupd M p o), fun _ _ _ _ h ⟨x, c, q⟩ => ⟨x, c, fun o ho p hp => h _ _ (q o ho p hp)⟩⟩
theorem law_newof {n k : Nat} {b : WS} {α : Type} {C : α → List D → Mem → Prop} {g : α → Mem → MO → Prop} (hn : ∀ x M r c n, ¬ g x M (.pool r c n)) (h : ∀ x ds M, Cons M → C x ds M → ds.length = k ∧ ∀ R : D → Mem → Prop, (∀ p o M', g x M o → M p = none → M' p = some o → Sub M M' → R (.ref p) M') → b.f (rtE R) (startD n ds) M) : FnLaw n k b (nNewOf C g) := fun P w K H ds M Q rm ⟨x, c, q⟩ => by
  obtain ⟨h1, h2⟩ := h x ds M rm.cons c
  refine ⟨h1, M, rm, fun _ z => z, b.mono (rtE (RNew (g x M) M)) _ _ _ ⟨fun _ M' z => ?_, fun d M' z => ?_, fun _ _ z => z, fun _ _ z => z⟩ (h2 (RNew (g x M) M) fun p o M' a b c s => ⟨p, o, rfl, a, b, c, s⟩)⟩
  · obtain ⟨p, o, e, _⟩ := z; cases e
  · obtain ⟨p, o, rfl, e0, e1, e2, s⟩ := z
    exact ⟨_, Vw.new rm.cons s e1 e2 (fun r c n z => hn x M r c n (z ▸ e0)), q o e0 p e1⟩
/-- two for, no test; what a turn of the outer one lays is told by J1 -/
theorem lc2_encJ {α β : Type} (enc : α → D) (enc1 : β → D) {g : WG} {wi1 : WI} {g1 : WG} {te : WE} {vs1 : List Nat} {stay : Mem → Prop} {ρ : Sl} {Q : D → Mem → Prop} (inner : α → List β) (f : α → β → D) (Jv : Mem → Prop) (items : List α)
    (step : ∀ (J : Mem → Prop), (∀ M, Jv M → J M) → ∀ x ∈ items, ∀ M, Jv M → stay M ∧ g.f (enc x) ρ M fun ρ2 M2 => wi1.f ρ2 M2 fun items1 stay1 M3 => ∃ J1 : Mem → Prop, items1 = (inner x).map enc1 ∧ J1 M3 ∧ (∀ M, J1 M → stay1 M ∧ J M) ∧ ∀ y ∈ inner x, ∀ M, J1 M → g1.f (enc1 y) (wipeD ρ2 vs1) M fun ρ3 M5 => te.f ρ3 M5 fun z M6 => z = f x y ∧ J1 M6)
    (hl : ((items.map fun x => (inner x).map (f x)).flatten).length ≤ sizeLine) (fin : ∀ M, Jv M → stay M ∧ ∀ q, M q = none → Q (.ref q) (mupd M q (.lst ((items.map fun x => (inner x).map (f x)).flatten)))) (M : Mem) (h : Jv M) : lc2F g wtYes wi1 g1 wtYes te vs1 stay ρ Q (items.map enc) [] M := by
  -- the inner turns
  have turns : ∀ (x : α) (ρ2 : Sl) (stay1 J1 : Mem → Prop) (N : List D → Mem → Prop), (∀ M, J1 M → stay1 M ∧ Jv M) → (∀ y ∈ inner x, ∀ M, J1 M → g1.f (enc1 y) (wipeD ρ2 vs1) M fun ρ3 M5 => te.f ρ3 M5 fun z M6 => z = f x y ∧ J1 M6) →
      ∀ (ys : List β) (acc : List D) (M : Mem), (∀ y ∈ ys, y ∈ inner x) → J1 M → acc.length + ys.length ≤ sizeLine → (∀ M, Jv M → N (acc ++ ys.map (f x)) M) → lc2G g1 wtYes te stay1 (wipeD ρ2 vs1) N (ys.map enc1) acc M := fun x ρ2 stay1 J1 N hst hy ys => by
    induction ys with
    | nil => exact fun acc M _ h _ hN => ⟨(hst M h).1, by have := hN M (hst M h).2; rwa [List.map_nil, List.append_nil] at this⟩
    | cons y ys ih =>
      refine fun acc M hm h hlen hN => ⟨(hst M h).1, g1.mono _ _ _ _ _ (fun ρ3 M5 q => ⟨fun _ => te.mono _ _ _ _ (fun z M6 q => ?_) q, fun z => by cases z⟩) (hy y (hm y List.mem_cons_self) M h)⟩
      rw [List.length_cons] at hlen
      rw [q.1]
      exact ⟨by omega, ih _ M6 (fun z hz => hm z (List.mem_cons_of_mem _ hz)) q.2 (by rw [List.length_append, List.length_singleton]; omega) fun M' h' => by
        have := hN M' h'
        rw [List.map_cons] at this
        rw [List.append_assoc]; exact this⟩
  have go : ∀ (xs : List α) (acc : List D) (M : Mem), (∀ x ∈ xs, x ∈ items) → Jv M → acc ++ (xs.map fun x => (inner x).map (f x)).flatten = (items.map fun x => (inner x).map (f x)).flatten → lc2F g wtYes wi1 g1 wtYes te vs1 stay ρ Q (xs.map enc) acc M := fun xs => by
    induction xs with
    | nil =>
      intro acc M _ h e
      rw [List.map_nil, List.flatten_nil, List.append_nil] at e
      rw [← e] at fin
      exact fin M h
    | cons x xs ih =>
      intro acc M hm h e
      have el := congrArg List.length e
      rw [List.map_cons, List.flatten_cons, List.length_append, List.length_append, List.length_map] at el
      obtain ⟨h1, h2⟩ := step Jv (fun _ z => z) x (hm x List.mem_cons_self) M h
      refine ⟨h1, g.mono _ _ _ _ _ (fun ρ2 M2 q => ⟨fun _ => wi1.mono _ _ _ _ (fun items1 stay1 M3 q => ?_) q, fun z => by cases z⟩) h2⟩
      obtain ⟨J1, rfl, hj, hst, hy⟩ := q
      refine turns x ρ2 stay1 J1 _ hst hy (inner x) acc M3 (fun _ z => z) hj (by omega) fun M4 h4 => ih _ M4 (fun z hz => hm z (List.mem_cons_of_mem _ hz)) h4 ?_
      rw [List.map_cons, List.flatten_cons] at e
      rw [List.append_assoc]; exact e
  exact go items [] M (fun _ h => h) h rfl
/-- the turns of a comprehension by the number done and what is made -/
theorem lc_inv {g : WG} {tt : WT} {te : WE} {stay : Mem → Prop} {ρ : Sl} {Q : D → Mem → Prop} (Iv : Nat → List D → Mem → Prop) (items : List D)
    (step : ∀ (J : List D → Mem → Prop) (i : Nat) (x : D), items[i]? = some x → ∀ acc M, Iv i acc M → (∀ acc' M', Iv (i + 1) acc' M' → J acc' M') → stay M ∧ g.f x ρ M fun ρ2 M2 => tt.f ρ2 M2 fun b M3 => (b = true → te.f ρ2 M3 fun y M4 => acc.length < sizeLine ∧ J (acc ++ [y]) M4) ∧ (b = false → J acc M3))
    (fin : ∀ acc M, Iv items.length acc M → stay M ∧ ∀ q, M q = none → Q (.ref q) (mupd M q (.lst acc))) (M : Mem) (h : Iv 0 [] M) : lcF g tt te stay ρ Q items [] M := by
  have go : ∀ (n i : Nat) (acc : List D) (M : Mem), i + n = items.length → Iv i acc M → lcF g tt te stay ρ Q (items.drop i) acc M := fun n => by
    induction n with
    | zero =>
      intro i acc M e h
      rw [List.drop_of_length_le (by omega)]
      exact fin acc M (by rw [show items.length = i by omega]; exact h)
    | succ n ih =>
      intro i acc M e h
      have hi : i < items.length := by omega
      rw [List.drop_eq_getElem_cons hi]
      exact step (fun acc M => lcF g tt te stay ρ Q (items.drop (i + 1)) acc M) i _ (List.getElem?_eq_getElem hi) acc M h fun acc' M' z => ih (i + 1) acc' M' (by omega) z
  have := go items.length 0 [] M (by omega) h
  rwa [List.drop_zero] at this
end MP

namespace MP
open PySem PySem.Spec PyProof.Rows L2

/-! ### x.upper() -/
def mUpper : WM := ⟨fun d ds M Q => ∃ z, d = .str z ∧ ds = [] ∧ z.length ≤ 5592405 ∧ Q (.str (Txt.upper z)) M, fun _ _ _ _ _ h ⟨z, e1, e2, e3, q⟩ => ⟨z, e1, e2, e3, h _ _ q⟩⟩
theorem dm_upper {X : Cx} : DM X "str" "upper" mUpper := ⟨_, PySem.F.plainAttrs_str, PySem.F.slot_str_upper, PySem.F.type_str_upper, fun pins s σ H x xs v us Q I rx rv ⟨d, ds, M, Q', rd, rds, rm, q, po⟩ => by
  obtain ⟨z, rfl, rfl, hz, q⟩ := q
  cases rds
  exact mt_upper pins s σ H x _ v us Q I rx rv ⟨z, rel_str rd, rfl, hz, po.here rm (.str _) q⟩⟩
theorem upper_at {z : Str} {M : Mem} {Q : D → Mem → Prop} (h : z.length ≤ 5592405) (q : Q (.str (Txt.upper z)) M) : mUpper.f (.str z) [] M Q := ⟨z, rfl, rfl, h, q⟩

/-! ### a def that asks the pool and lays what it likes -/
def nDrOf {α : Type} (k : Nat) (C : α → List D → Mem → Prop) (g : α → Mem → D → Mem → Prop) : WN := ⟨fun ds M Q => ∃ p r c n rest, ds = .ref p :: rest ∧ M p = some (.pool r c n) ∧ n + k ≤ 1000000000 ∧ ∃ x, C x ds M ∧ ∀ d M', DrS p r c (n + k) M M' → g x M d M' → Q d M',
  fun _ _ _ _ h ⟨p, r, c, n, rest, e1, e2, e3, x, e4, q⟩ => ⟨p, r, c, n, rest, e1, e2, e3, x, e4, fun d M' s hd => h _ _ (q d M' s hd)⟩⟩
theorem drof_at {α : Type} {k : Nat} {C : α → List D → Mem → Prop} {g : α → Mem → D → Mem → Prop} {p r c : Addr} {n : Nat} {rest : List D} {M : Mem} {Q : D → Mem → Prop} (h : M p = some (.pool r c n)) (hk : n + k ≤ 1000000000) (x : α) (hc : C x (.ref p :: rest) M) (q : ∀ d M', DrS p r c (n + k) M M' → g x M d M' → Q d M') : (nDrOf k C g).f (.ref p :: rest) M Q := ⟨p, r, c, n, rest, rfl, h, hk, x, hc, q⟩
theorem law_drof {n k kk : Nat} {b : WS} {α : Type} {C : α → List D → Mem → Prop} {g : α → Mem → D → Mem → Prop} (h : ∀ x p r c m rest M, Cons M → M p = some (.pool r c m) → m + k ≤ 1000000000 → C x (.ref p :: rest) M → (D.ref p :: rest).length = kk ∧ ∀ R : D → Mem → Prop, (∀ d M', g x M d M' → DrS p r c (m + k) M M' → R d M') → b.f (rtE R) (startD n (.ref p :: rest)) M) : FnLaw n kk b (nDrOf k C g) := fun P w K H ds M Q rm ⟨p, r, c, m, rest, e1, e2, e3, x, e4, q⟩ => by
  subst e1
  obtain ⟨h1, h2⟩ := h x p r c m rest M rm.cons e2 e3 e4
  exact ⟨h1, M, rm, fun _ z => z, b.mono (rtE fun d M' => g x M d M' ∧ DrS p r c (m + k) M M') _ _ _ ⟨fun _ M' z => ⟨M', Vw.same, q _ M' z.2 z.1⟩, fun d M' z => ⟨M', Vw.same, q d M' z.2 z.1⟩, fun _ _ z => z, fun _ _ z => z⟩ (h2 _ fun d M' a s => ⟨a, s⟩)⟩

/-! ### any data: tuples, texts, ints, truth values, None, and lists that are only known to be lists -/
mutual
def D.anyV (N : Nat) (M : Mem) : D → Prop
  | .non => True
  | .bl _ => True
  | .int i => i.natAbs ≤ N
  | .str z => z.length ≤ N
  | .tup xs => xs.length ≤ N ∧ D.anyVs N M xs
  | .ref a => ∃ xs, M a = some (.lst xs)
  | .ty _ => False
  | .fl _ => False
def D.anyVs (N : Nat) (M : Mem) : List D → Prop
  | [] => True
  | x :: xs => D.anyV N M x ∧ D.anyVs N M xs
end
mutual
def D.tdp : D → Nat
  | .tup xs => D.tdps xs + 1
  | _ => 0
def D.tdps : List D → Nat
  | [] => 0
  | x :: xs => max (D.tdp x) (D.tdps xs)
end
theorem anyVs_iff {N : Nat} {M : Mem} : ∀ {xs : List D}, D.anyVs N M xs ↔ ∀ x ∈ xs, D.anyV N M x
  | [] => by simp [D.anyVs]
  | x :: xs => by simp [D.anyVs, anyVs_iff (xs := xs)]
theorem tdps_le {n : Nat} : ∀ {xs : List D}, D.tdps xs ≤ n ↔ ∀ x ∈ xs, D.tdp x ≤ n
  | [] => by simp [D.tdps]
  | x :: xs => by simp [D.tdps, Nat.max_le, tdps_le (xs := xs)]
mutual
theorem D.anyV.up {N N' : Nat} {M M' : Mem} (hN : N ≤ N') (hM : ∀ a xs, M a = some (.lst xs) → ∃ ys, M' a = some (.lst ys)) : ∀ {d : D}, D.anyV N M d → D.anyV N' M' d
  | .non, _ => trivial
  | .bl _, _ => trivial
  | .int i, h => Nat.le_trans (show i.natAbs ≤ N from h) hN
  | .str z, h => Nat.le_trans (show z.length ≤ N from h) hN
  | .tup xs, h => ⟨Nat.le_trans h.1 hN, D.anyVs.up hN hM h.2⟩
  | .ref a, ⟨xs, h⟩ => hM a xs h
  | .ty _, h => h.elim
  | .fl _, h => h.elim
theorem D.anyVs.up {N N' : Nat} {M M' : Mem} (hN : N ≤ N') (hM : ∀ a xs, M a = some (.lst xs) → ∃ ys, M' a = some (.lst ys)) : ∀ {ds : List D}, D.anyVs N M ds → D.anyVs N' M' ds
  | [], _ => trivial
  | _ :: _, h => ⟨D.anyV.up hN hM h.1, D.anyVs.up hN hM h.2⟩
end
theorem DrS.lsts {p r c : Addr} {b : Nat} {M M' : Mem} {r' c' : Addr} {n : Nat} (hp : M p = some (.pool r' c' n)) (d : DrS p r c b M M') : ∀ a xs, M a = some (.lst xs) → ∃ ys, M' a = some (.lst ys) := fun a xs h => ⟨xs, d.2 a _ (fun z => by rw [z, hp] at h; cases h) h⟩
theorem Sub.lsts {M M' : Mem} (s : Sub M M') : ∀ a xs, M a = some (.lst xs) → ∃ ys, M' a = some (.lst ys) := fun a xs h => ⟨xs, s _ _ h⟩
theorem lsts_set {M : Mem} {f : Addr} {zs : List D} : ∀ a xs, M a = some (.lst xs) → ∃ ys, mupd M f (.lst zs) a = some (.lst ys) := fun a xs h => by
  by_cases e : a = f
  · subst e; exact ⟨_, mupd_same⟩
  · exact ⟨xs, by rw [mupd_ne e]; exact h⟩
theorem loop_r0 {g : WG} {b : WS} {A : DEn} {n : Nat} (Iv : Nat → Sl → Mem → Prop) (step : ∀ (I : Nat → Sl → Mem → Prop), (∀ i ρ M, Iv i ρ M → I i ρ M) → ∀ i ρ M, i < n → Iv i ρ M → g.f (.int ((i : Nat) : Int)) ρ M fun ρ2 M2 => b.f { A with nx := I (i + 1), ct := I (i + 1), bk := A.nx } ρ2 M2) (fin : ∀ ρ M, Iv n ρ M → A.nx ρ M) (ρ : Sl) (M : Mem) (h : Iv 0 ρ M) :
    loopF g b (fun _ => True) A (rngD 0 ((n : Nat) : Int).toNat) ρ M := by
  rw [Int.toNat_natCast]
  exact loop_rng (lo := 0) Iv (fun I mk i ρ M hi h => by rw [Int.zero_add]; exact step I mk i ρ M hi h) fin ρ M h
theorem isi_at {d : D} {t u : String} {b : Bool} {M : Mem} {Q : D → Mem → Prop} (h : tyName d M = some t) (hb : kitB2 t u = some b) (q : Q (.bl b) M) : nIsi.f [d, .ty u] M Q := ⟨d, u, t, b, rfl, h, hb, q⟩
theorem anyV_ty {N : Nat} {M : Mem} : ∀ {d : D}, D.anyV N M d → ∃ t, tyName d M = some t ∧ (t = "NoneType" ∨ t = "bool" ∨ t = "int" ∨ t = "str" ∨ t = "tuple" ∨ t = "list")
  | .non, _ => ⟨_, rfl, by simp⟩
  | .bl _, _ => ⟨_, rfl, by simp⟩
  | .int _, _ => ⟨_, rfl, by simp⟩
  | .str _, _ => ⟨_, rfl, by simp⟩
  | .tup _, _ => ⟨_, rfl, by simp⟩
  | .ref a, ⟨xs, h⟩ => ⟨"list", by simp [tyName, h], by simp⟩
  | .ty _, h => h.elim
  | .fl _, h => h.elim
/-- the built-in types that tests ask for -/
def isTy (u : String) (d : D) : Bool := match d with
  | .bl _ => u == "bool" || u == "int"
  | .int _ => u == "int"
  | .str _ => u == "str"
  | .tup _ => u == "tuple"
  | .ref _ => u == "list"
  | _ => false
theorem isiV {N : Nat} {d : D} {u : String} {M : Mem} {Q : D → Mem → Prop} (h : D.anyV N M d) (hu : u = "int" ∨ u = "bool" ∨ u = "str" ∨ u = "tuple" ∨ u = "list") (q : Q (.bl (isTy u d)) M) : nIsi.f [d, .ty u] M Q := by
  have key : ∃ t, tyName d M = some t ∧ kitB2 t u = some (isTy u d) := by
    cases d with
    | non => refine ⟨_, rfl, ?_⟩; rcases hu with rfl | rfl | rfl | rfl | rfl <;> rfl
    | bl b => refine ⟨_, rfl, ?_⟩; rcases hu with rfl | rfl | rfl | rfl | rfl <;> rfl
    | int i => refine ⟨_, rfl, ?_⟩; rcases hu with rfl | rfl | rfl | rfl | rfl <;> rfl
    | str z => refine ⟨_, rfl, ?_⟩; rcases hu with rfl | rfl | rfl | rfl | rfl <;> rfl
    | tup xs => refine ⟨_, rfl, ?_⟩; rcases hu with rfl | rfl | rfl | rfl | rfl <;> rfl
    | ref a => obtain ⟨xs, e⟩ := h; refine ⟨"list", by simp [tyName, e], ?_⟩; rcases hu with rfl | rfl | rfl | rfl | rfl <;> rfl
    | ty n => exact h.elim
    | fl xs => exact h.elim
  obtain ⟨t, h1, h2⟩ := key
  exact isi_at h1 h2 q

local macro_rules | `(tactic| walk_at "mp1") => `(tactic| simp only [e_wVar, e_wC, e_wOp, e_wUn, e_aNil, e_aCons, e_wCB, e_wCK, e_wTup, e_wLst, e_wtB, e_wtV, e_wtNot, e_wtAnd, e_wtOr, e_wAnd, e_wOr, e_wNot, e_wIf, e_wChain, e_wSl, e_oNone, e_oSome, e_wBM, e_wLc, e_wLc2, e_wDc, e_wDn, e_wDn2, e_nRng1, e_iRg, e_wRev, e_revF_tup, e_wtYes, e_sNil, e_sSeq, e_sBreak, e_sCont, e_sDrop, e_sRet, e_sRetN, e_sIf, e_sAsg, e_sPar, e_sAug, e_sFor, e_gN, e_gsNil, e_gsCons, e_gT, e_gSubD, e_iSeq, e_iR1, e_iR2, e_iEnumL, e_iZipW, e_mAppend, e_mExtend, e_mIndex, e_nLen, e_nTuple, e_nList, e_nBls, e_rIx, e_nSorted, e_nSortedK, e_nSortedS, e_wDNew, e_wDisp2, e_iKy, e_iPr, e_nBest, e_kBestD, e_rAdd_int, e_rAdd_tup, e_rAdd_str, e_rAdd_ref, e_rSub_int, e_rMulA_int, e_rMulA_tup, e_rMulA_ref, e_rFdiv_int, e_rMod_int, e_rPow_int, e_rLe_int, e_rGt_int, e_rGe_int, e_rLt_int, e_rLt_tup, e_rEqn_int, e_rEqn_str, e_rEqn_bl, e_rEqn_tup, e_rEqn_ref, e_rIsn_non, e_rIsn_bl, e_rInn_tup, e_rNeg_int, e_ix_tup, e_ix_fl, len_tup, len_fl, items_tup, items_fl, iseq_tup, iseq_fl, e_nInt_int, e_nInt_bl, e_nInt1_int, e_nInt2_int, e_nIsi_2, e_r2F, e_tru_bl, e_tru_int, e_tru_tup, tn_int, tn_bl, tn_str, tn_non, tn_tup, tn_fl, kb_int_int, kb_int_bool, kb_int_str, kb_int_tuple, kb_int_list, kb_bool_int, kb_bool_bool, kb_bool_str, kb_bool_tuple, kb_bool_list, kb_str_int, kb_str_bool, kb_str_str, kb_str_tuple, kb_str_list, kb_NoneType_int, kb_NoneType_bool, kb_NoneType_str, kb_NoneType_tuple, kb_NoneType_list, kb_tuple_int, kb_tuple_bool, kb_tuple_str, kb_tuple_tuple, kb_tuple_list, kb_list_int, kb_list_bool, kb_list_str, kb_list_tuple, kb_list_list, s_at0, s_at1, s_at2, s_at3, s_at4, s_ex2, startD, List.map_cons, List.map_nil, List.length_cons, List.length_nil, List.replicate_succ, List.replicate_zero, List.cons_append, List.nil_append, List.append_nil, Nat.sub_self, Nat.reduceAdd, Nat.reduceSub, List.getElem?_cons_zero, List.getElem?_cons_succ, List.getElem?_nil, Option.some.injEq, reduceCtorEq, false_and, and_false, exists_false, exists_eq_left', exists_and_left, exists_and_right, exists_eq_right, D.int.injEq, D.bl.injEq, D.str.injEq, D.tup.injEq, D.ref.injEq, D.ty.injEq, List.cons.injEq, and_self, true_and, and_true, exists_eq_left, List.set_cons_zero, List.set_cons_succ, wipeD, forall_const, if_true, false_implies, true_implies, implies_true, Bool.false_eq_true, Bool.true_eq_false, eq_self_iff_true, xor_f, xor_t, Bool.not_true, Bool.not_false, decide_eq_true_eq, decide_eq_false_iff_not])
local macro_rules | `(tactic| walk_at "mp") => `(tactic| (try dsimp only); (try walk_at "mp1"))
local macro_rules | `(tactic| walk_at "cm") => `(tactic| first | exact cmul_r ⟨by decide, by decide⟩ | exact cmul_l ⟨by decide, by decide⟩ | exact cmul_r ⟨by omega, by omega⟩ | exact cmul_l ⟨by omega, by omega⟩)
def w__law_bent (rr : WN) : WS :=
    sSeq (sIf (wtB (wCB nIsi (aCons (wVar 1) (aCons (wC (.ty "tuple")) (aNil))))) (sSeq (sAsg (wCB r__law_draw (aCons (wVar 0) (aCons (wC (.int 10)) (aNil)))) (gN 2))
    (sSeq (sIf (wtOr (wtB (wOp rEq (wCB nLen (aCons (wVar 1) (aNil))) (wC (.int 0)))) (wtB (wOp rEq (wVar 2) (wC (.int 0))))) (sRet (wOp rAdd (wVar 1) (wTup (aCons (wOp rIx (wLst (aCons (wC (.int 0)) (aCons (wC (.int 1)) (aCons (wTup (aNil)) (aCons (wTup (aCons (wC (.int 0)) (aCons (wC (.int 0)) (aNil)))) (aNil)))))) (wCB r__law_draw (aCons (wVar 0) (aCons (wC (.int 4)) (aNil))))) (aNil))))) (sNil))
    (sSeq (sAsg (wCB r__law_draw (aCons (wVar 0) (aCons (wCB nLen (aCons (wVar 1) (aNil))) (aNil)))) (gN 3))
    (sSeq (sIf (wtB (wOp rEq (wVar 2) (wC (.int 1)))) (sRet (wOp rAdd (wSl (wVar 1) oNone (oSome (wVar 3))) (wSl (wVar 1) (oSome (wOp rAdd (wVar 3) (wC (.int 1)))) oNone))) (sNil))
    (sSeq (sIf (wtAnd (wtB (wOp rEq (wVar 2) (wC (.int 2)))) (wtB (wOp rEq (wCB r__law_draw (aCons (wVar 0) (aCons (wC (.int 3)) (aNil)))) (wC (.int 0))))) (sRet (wCB nList (aCons (wVar 1) (aNil)))) (sNil))
    (sSeq (sIf (wtB (wOp rEq (wVar 2) (wC (.int 3)))) (sRet (wOp rAdd (wOp rAdd (wSl (wVar 1) oNone (oSome (wVar 3))) (wTup (aCons (wOp rIx (wVar 1) (wVar 3)) (aNil)))) (wSl (wVar 1) (oSome (wVar 3)) oNone))) (sNil))
    (sSeq (sIf (wtAnd (wtB (wOp rEq (wVar 2) (wC (.int 4)))) (wtB (wOp rGt (wCB nLen (aCons (wVar 1) (aNil))) (wC (.int 1))))) (sSeq (sAsg (wOp rMod (wOp rAdd (wVar 3) (wC (.int 1))) (wCB nLen (aCons (wVar 1) (aNil)))) (gN 4))
    (sSeq (sAsg (wCB nMin2 (aCons (wVar 3) (aCons (wVar 4) (aNil)))) (gN 5))
    (sSeq (sAsg (wCB nMax2 (aCons (wVar 3) (aCons (wVar 4) (aNil)))) (gN 6))
    (sRet (wOp rAdd (wOp rAdd (wOp rAdd (wOp rAdd (wSl (wVar 1) oNone (oSome (wVar 5))) (wTup (aCons (wOp rIx (wVar 1) (wVar 6)) (aNil)))) (wSl (wVar 1) (oSome (wOp rAdd (wVar 5) (wC (.int 1)))) (oSome (wVar 6)))) (wTup (aCons (wOp rIx (wVar 1) (wVar 5)) (aNil)))) (wSl (wVar 1) (oSome (wOp rAdd (wVar 6) (wC (.int 1)))) oNone)))))) (sNil))
    (sRet (wOp rAdd (wOp rAdd (wSl (wVar 1) oNone (oSome (wVar 3))) (wTup (aCons (wCB rr (aCons (wVar 0) (aCons (wOp rIx (wVar 1) (wVar 3)) (aNil)))) (aNil)))) (wSl (wVar 1) (oSome (wOp rAdd (wVar 3) (wC (.int 1)))) oNone)))))))))) (sNil))
    (sSeq (sIf (wtB (wCB nIsi (aCons (wVar 1) (aCons (wC (.ty "str")) (aNil))))) (sRet (wOp rIx (wLst (aCons (wOp rAdd (wVar 1) (wC (.str "x"))) (aCons (wC (.str "")) (aCons (wBM "str" mUpper (wVar 1) (aNil)) (aCons (wC .non) (aCons (wC (.int 0)) (aNil))))))) (wCB r__law_draw (aCons (wVar 0) (aCons (wC (.int 5)) (aNil)))))) (sNil))
    (sSeq (sIf (wtB (wOp rEq (wCB r__law_kind (aCons (wVar 1) (aNil))) (wC (.int 2)))) (sRet (wOp rIx (wLst (aCons (wOp rAdd (wVar 1) (wC (.int 1))) (aCons (wOp rSub (wVar 1) (wC (.int 1))) (aCons (wOp rAdd (wVar 1) (wC (.int 1))) (aCons (wOp rSub (wVar 1) (wC (.int 1))) (aCons (wC (.int 0)) (aCons (wOp rAdd (wVar 1) (wC (.int 16))) (aCons (wC (.bl true)) (aCons (wC .non) (aCons (wCB nStrI (aCons (wVar 1) (aNil))) (aCons (wTup (aCons (wVar 1) (aNil))) (aNil)))))))))))) (wCB r__law_draw (aCons (wVar 0) (aCons (wC (.int 10)) (aNil)))))) (sNil))
    (sRet (wOp rIx (wLst (aCons (wC (.int 0)) (aCons (wTup (aNil)) (aCons (wC (.bl false)) (aCons (wC (.str "x")) (aNil)))))) (wCB r__law_draw (aCons (wVar 0) (aCons (wC (.int 4)) (aNil))))))))
def wb5 (rr : WN) : WS := sRet (wOp rAdd (wOp rAdd (wSl (wVar 1) oNone (oSome (wVar 3))) (wTup (aCons (wCB rr (aCons (wVar 0) (aCons (wOp rIx (wVar 1) (wVar 3)) (aNil)))) (aNil)))) (wSl (wVar 1) (oSome (wOp rAdd (wVar 3) (wC (.int 1)))) oNone))
def wb3 (rr : WN) : WS := sSeq (sIf (wtB (wOp rEq (wVar 2) (wC (.int 3)))) (sRet (wOp rAdd (wOp rAdd (wSl (wVar 1) oNone (oSome (wVar 3))) (wTup (aCons (wOp rIx (wVar 1) (wVar 3)) (aNil)))) (wSl (wVar 1) (oSome (wVar 3)) oNone))) (sNil)) (sSeq (sIf (wtAnd (wtB (wOp rEq (wVar 2) (wC (.int 4)))) (wtB (wOp rGt (wCB nLen (aCons (wVar 1) (aNil))) (wC (.int 1))))) (sSeq (sAsg (wOp rMod (wOp rAdd (wVar 3) (wC (.int 1))) (wCB nLen (aCons (wVar 1) (aNil)))) (gN 4)) (sSeq (sAsg (wCB nMin2 (aCons (wVar 3) (aCons (wVar 4) (aNil)))) (gN 5)) (sSeq (sAsg (wCB nMax2 (aCons (wVar 3) (aCons (wVar 4) (aNil)))) (gN 6)) (sRet (wOp rAdd (wOp rAdd (wOp rAdd (wOp rAdd (wSl (wVar 1) oNone (oSome (wVar 5))) (wTup (aCons (wOp rIx (wVar 1) (wVar 6)) (aNil)))) (wSl (wVar 1) (oSome (wOp rAdd (wVar 5) (wC (.int 1)))) (oSome (wVar 6)))) (wTup (aCons (wOp rIx (wVar 1) (wVar 5)) (aNil)))) (wSl (wVar 1) (oSome (wOp rAdd (wVar 6) (wC (.int 1)))) oNone)))))) (sNil)) (wb5 rr))
def wbt (rr : WN) : WS := sSeq (sAsg (wCB r__law_draw (aCons (wVar 0) (aCons (wC (.int 10)) (aNil)))) (gN 2)) (sSeq (sIf (wtOr (wtB (wOp rEq (wCB nLen (aCons (wVar 1) (aNil))) (wC (.int 0)))) (wtB (wOp rEq (wVar 2) (wC (.int 0))))) (sRet (wOp rAdd (wVar 1) (wTup (aCons (wOp rIx (wLst (aCons (wC (.int 0)) (aCons (wC (.int 1)) (aCons (wTup (aNil)) (aCons (wTup (aCons (wC (.int 0)) (aCons (wC (.int 0)) (aNil)))) (aNil)))))) (wCB r__law_draw (aCons (wVar 0) (aCons (wC (.int 4)) (aNil))))) (aNil))))) (sNil)) (sSeq (sAsg (wCB r__law_draw (aCons (wVar 0) (aCons (wCB nLen (aCons (wVar 1) (aNil))) (aNil)))) (gN 3)) (sSeq (sIf (wtB (wOp rEq (wVar 2) (wC (.int 1)))) (sRet (wOp rAdd (wSl (wVar 1) oNone (oSome (wVar 3))) (wSl (wVar 1) (oSome (wOp rAdd (wVar 3) (wC (.int 1)))) oNone))) (sNil)) (sSeq (sIf (wtAnd (wtB (wOp rEq (wVar 2) (wC (.int 2)))) (wtB (wOp rEq (wCB r__law_draw (aCons (wVar 0) (aCons (wC (.int 3)) (aNil)))) (wC (.int 0))))) (sRet (wCB nList (aCons (wVar 1) (aNil)))) (sNil)) (wb3 rr)))))
theorem wb_eq (rr : WN) : w__law_bent rr = (sSeq (sIf (wtB (wCB nIsi (aCons (wVar 1) (aCons (wC (.ty "tuple")) (aNil))))) (wbt rr) (sNil)) (sSeq (sIf (wtB (wCB nIsi (aCons (wVar 1) (aCons (wC (.ty "str")) (aNil))))) (sRet (wOp rIx (wLst (aCons (wOp rAdd (wVar 1) (wC (.str "x"))) (aCons (wC (.str "")) (aCons (wBM "str" mUpper (wVar 1) (aNil)) (aCons (wC .non) (aCons (wC (.int 0)) (aNil))))))) (wCB r__law_draw (aCons (wVar 0) (aCons (wC (.int 5)) (aNil)))))) (sNil)) (sSeq (sIf (wtB (wOp rEq (wCB r__law_kind (aCons (wVar 1) (aNil))) (wC (.int 2)))) (sRet (wOp rIx (wLst (aCons (wOp rAdd (wVar 1) (wC (.int 1))) (aCons (wOp rSub (wVar 1) (wC (.int 1))) (aCons (wOp rAdd (wVar 1) (wC (.int 1))) (aCons (wOp rSub (wVar 1) (wC (.int 1))) (aCons (wC (.int 0)) (aCons (wOp rAdd (wVar 1) (wC (.int 16))) (aCons (wC (.bl true)) (aCons (wC .non) (aCons (wCB nStrI (aCons (wVar 1) (aNil))) (aCons (wTup (aCons (wVar 1) (aNil))) (aNil)))))))))))) (wCB r__law_draw (aCons (wVar 0) (aCons (wC (.int 10)) (aNil)))))) (sNil)) (sRet (wOp rIx (wLst (aCons (wC (.int 0)) (aCons (wTup (aNil)) (aCons (wC (.bl false)) (aCons (wC (.str "x")) (aNil)))))) (wCB r__law_draw (aCons (wVar 0) (aCons (wC (.int 4)) (aNil))))))))) := rfl
abbrev bN (N : Nat) : Nat := 3 * N + 30
def rr__law_bent : Nat → WN
  | 0 => rNone
  | n + 1 => nDrOf (3 * (n + 1)) (fun (x : D × Nat) ds M => ∃ p, ds = [.ref p, x.1] ∧ (1 ≤ x.2 ∧ x.2 ≤ 1000000) ∧ x.1.anyV x.2 M ∧ x.1.tdp ≤ n) fun x M d M' => d.anyV (bN x.2) M' ∧ d.tdp ≤ x.1.tdp + 1
theorem rr0__law_bent : ∀ ds M Q, ¬ (rr__law_bent 0).f ds M Q := fun _ _ _ h => h
theorem cut_mem {α : Type} {xs : List α} {lo hi : Option Int} {x : α} (h : x ∈ MP.cutD xs lo hi) : x ∈ xs := List.mem_of_mem_drop (List.mem_of_mem_take h)
theorem cut_le {α : Type} (xs : List α) (lo hi : Option Int) : (MP.cutD xs lo hi).length ≤ xs.length := by
  unfold MP.cutD
  rw [List.length_take, List.length_drop]; omega
/-- one of a list's items, drawn -/
theorem pick_at {p r c : Addr} {m : Nat} {xs : List D} {k : Int} {M : Mem} {Q : D → Mem → Prop} (hp : M p = some (.pool r c m)) (hm : m + 1 ≤ 1000000000) (hk : k = (xs.length : Nat)) (h0 : 1 ≤ xs.length ∧ xs.length ≤ 1000) (q : ∀ x ∈ xs, ∀ M', DrS p r c (m + 1) M M' → Q x M') :
    ∀ a, M a = none → r__law_draw.f [.ref p, .int k] (mupd M a (.lst xs)) fun e M2 => ixF (.ref a) e M2 fun x => Q x M2 := fun a ha => by
  subst hk
  have npa : p ≠ a := fun z => by rw [z, ha] at hp; cases hp
  have hp1 : mupd M a (.lst xs) p = some (.pool r c m) := (Sub.new ha) _ _ hp
  rw [draw_at hp1]
  refine ⟨by omega, by omega, fun i hi0 hi1 => ?_⟩
  obtain ⟨i, rfl⟩ := Int.eq_ofNat_of_zero_le hi0
  have hq : mupd (mupd M a (.lst xs)) p (.pool r c (m + 1)) a = some (.lst xs) := by rw [mupd_ne (Ne.symm npa), mupd_same]
  rw [ix_lst hq]
  have hi : i < xs.length := by omega
  refine ⟨xs[i], atI_nat (List.getElem?_eq_getElem hi), q _ (List.getElem_mem _) _ ?_⟩
  have d0 : DrS p r c m M (mupd M a (.lst xs)) := (DrS.refl hp).upd ha (by rw [hp]; exact fun z => by cases z)
  exact d0.ask hp1
theorem law__law_bent (n : Nat) : FnLaw 7 2 (w__law_bent (rr__law_bent n)) (rr__law_bent (n + 1)) := law_drof fun ⟨v, N⟩ p r c m rest M cn hp hk ⟨p', e, ⟨hN1, hN2⟩, hv, hd⟩ => by
  simp only [List.cons.injEq, D.ref.injEq] at e
  obtain ⟨rfl, rfl⟩ := e
  refine ⟨rfl, ?_⟩
  intro R mkR
  dsimp only at hN1 hN2 hv hd mkR
  have sz := sizeLine_eq
  have lst := fun {b : Nat} {M' : Mem} (d : DrS p r c b M M') => d.lsts hp
  rw [wb_eq]
  unfold rtE
  -- what is no tuple: one of some data
  have leaf : ∀ (ys : List D), (∀ y ∈ ys, y.anyV (bN N) M ∧ y.tdp ≤ v.tdp + 1) → ∀ y ∈ ys, ∀ M', DrS p r c (m + 1) M M' → R y M' := fun ys h y hy M' d => mkR _ _ ⟨(h y hy).1.up (Nat.le_refl _) (lst d), (h y hy).2⟩ (d.le (by omega))
  cases v with
  | tup xs =>
    clear leaf
    unfold wbt
    obtain ⟨hl, hxs⟩ := hv
    rw [anyVs_iff] at hxs
    have hd : D.tdps xs + 1 ≤ n := hd
    have fin : ∀ (ys : List D) M' (b : Nat), (∀ y ∈ ys, y ∈ xs ∨ (y.anyV (bN N) M' ∧ y.tdp ≤ D.tdps xs + 1)) → ys.length ≤ bN N → DrS p r c b M M' → b ≤ m + 3 * (n + 1) → R (.tup ys) M' := fun ys M' b h hy d hb => by
      refine mkR _ _ ⟨⟨hy, anyVs_iff.mpr fun y hy => ?_⟩, ?_⟩ (d.le hb)
      · rcases h y hy with g | g
        · exact (hxs y g).up (by unfold bN; omega) (lst d)
        · exact g.1
      · show D.tdps ys + 1 ≤ (D.tdps xs + 1) + 1
        refine Nat.succ_le_succ (tdps_le.mpr fun y hy => ?_)
        rcases h y hy with g | g
        · exact Nat.le_succ_of_le (tdps_le.mp (Nat.le_refl _) y g)
        · exact g.2
    have app : ∀ M1 b, M1 p = some (.pool r c b) → DrS p r c b M M1 → b + 1 ≤ m + 3 * (n + 1) → ∀ a, M1 a = none → r__law_draw.f [.ref p, .int 4] (mupd M1 a (.lst [.int 0, .int 1, .tup [], .tup [.int 0, .int 0]])) fun e M2 => ixF (.ref a) e M2 fun x => 1 ≤ sizeLine ∧ xs.length + 1 ≤ sizeLine ∧ R (.tup (xs ++ [x])) M2 := fun M1 b hp1 d1 hb =>
      pick_at hp1 (by omega) rfl (by simp) fun x hx M' d => ⟨by omega, by omega, fin _ M' (b + 1) (fun y hy => by
        rcases List.mem_append.mp hy with hy | hy
        · exact .inl hy
        · rw [List.mem_singleton.mp hy]
          refine .inr ?_
          simp only [List.mem_cons, List.not_mem_nil, or_false] at hx
          rcases hx with rfl | rfl | rfl | rfl
          · exact ⟨Nat.zero_le _, Nat.zero_le _⟩
          · exact ⟨by show 1 ≤ bN N; unfold bN; omega, Nat.zero_le _⟩
          · exact ⟨⟨Nat.zero_le _, trivial⟩, Nat.succ_le_succ (Nat.zero_le _)⟩
          · exact ⟨⟨by show 2 ≤ bN N; unfold bN; omega, Nat.zero_le _, Nat.zero_le _, trivial⟩, Nat.succ_le_succ (Nat.zero_le _)⟩) (by rw [List.length_append, List.length_singleton]; unfold bN; omega) (d1.trans d) hb⟩
    walk_at "mp"
    rw [draw_at hp]
    refine ⟨by omega, by omega, fun way hw0 hw1 => ?_⟩
    have d1 : DrS p r c (m + 1) M (mupd M p (.pool r c (m + 1))) := (DrS.refl hp).ask hp
    have p1 : mupd M p (.pool r c (m + 1)) p = some (.pool r c (m + 1)) := mupd_same
    walk_at "mp"
    generalize mupd M p (.pool r c (m + 1)) = M1 at d1 p1
    refine ⟨fun _ => ⟨by omega, by omega, by omega, app M1 _ p1 d1 (by omega)⟩, fun hne => ⟨fun _ => ⟨by omega, by omega, by omega, app M1 _ p1 d1 (by omega)⟩, fun hw => ?_⟩⟩
    rw [draw_at p1]
    refine ⟨by omega, by omega, fun at' ha0 ha1 => ?_⟩
    obtain ⟨k, rfl⟩ := Int.eq_ofNat_of_zero_le ha0
    have hk' : k < xs.length := by omega
    have d2 : DrS p r c (m + 1 + 1) M (mupd M1 p (.pool r c (m + 1 + 1))) := d1.ask p1
    have p2 : mupd M1 p (.pool r c (m + 1 + 1)) p = some (.pool r c (m + 1 + 1)) := mupd_same
    generalize mupd M1 p (.pool r c (m + 1 + 1)) = M2 at d2 p2
    have c1 := fun lo hi => cut_le xs lo hi
    have cm : ∀ {lo hi : Option Int} {y : D}, y ∈ MP.cutD xs lo hi → y ∈ xs := fun h => cut_mem h
    have ix : ∀ (j : Nat) (hj : j < xs.length) (M' : Mem) (Q : D → Prop), Q xs[j] → ixF (.tup xs) (.int (j : Nat)) M' Q := fun j hj M' Q q => by
      rw [e_ix_tup]
      exact ⟨_, atI_nat (List.getElem?_eq_getElem hj), q⟩
    have cl : ∀ (ys : List D) lo hi M' (Q : D → Mem → Prop), slF (.tup ys) lo hi M' Q = Q (.tup (MP.cutD ys lo hi)) M' := fun _ _ _ _ _ => rfl
    have ad : ∀ (ys zs : List D) M' (Q : D → Mem → Prop), rAdd.f (.tup ys) (.tup zs) M' Q = (ys.length + zs.length ≤ sizeLine ∧ Q (.tup (ys ++ zs)) M') := fun _ _ _ _ => rfl
    -- the last three ways
    have last : ∀ (nx0 : Sl → Mem → Prop) (x4 x5 x6 : Option D) M3 b, M3 p = some (.pool r c b) → DrS p r c b M M3 → b + 3 * n ≤ m + 3 * (n + 1) → (wb3 (rr__law_bent n)).f { nx := nx0, rt := R } [some (.ref p), some (.tup xs), some (.int way), some (.int (k : Nat)), x4, x5, x6] M3 := fun nx0 x4 x5 x6 M3 b p3 d3 hb => by
      have deep : ∀ (nx0 : Sl → Mem → Prop) (x4 x5 x6 : Option D), (wb5 (rr__law_bent n)).f { nx := nx0, rt := R } [some (.ref p), some (.tup xs), some (.int way), some (.int (k : Nat)), x4, x5, x6] M3 := fun nx0 x4 x5 x6 => by
        obtain ⟨n', rfl⟩ : ∃ n', n = n' + 1 := ⟨n - 1, by omega⟩
        unfold wb5
        walk_at "mp"
        rw [cl]
        refine ⟨_, atI_nat (List.getElem?_eq_getElem hk'), ?_⟩
        have mem : xs[k] ∈ xs := List.getElem_mem _
        refine drof_at p3 (by omega) (xs[k], N) ⟨p, rfl, ⟨hN1, hN2⟩, (hxs _ mem).up (Nat.le_refl _) (lst d3), ?_⟩ fun y M4 d4 ⟨g1, g2⟩ => ?_
        · have := tdps_le.mp (Nat.le_refl _) _ mem
          dsimp only
          omega
        simp only [ad, cl]
        have l1 := c1 none (some (k : Int))
        have l2 := c1 (some ((k : Int) + 1)) none
        refine ⟨by omega, by simp only [List.length_cons, List.length_nil]; omega, by rw [List.length_append]; simp only [List.length_cons, List.length_nil]; omega, fin _ M4 _ (fun z hz => ?_) ?_ (d3.trans d4) (by omega)⟩
        · rcases List.mem_append.mp hz with hz | hz
          · rcases List.mem_append.mp hz with hz | hz
            · exact .inl (cm hz)
            · rw [List.mem_singleton.mp hz]
              refine .inr ⟨g1, Nat.le_trans g2 ?_⟩
              have := tdps_le.mp (Nat.le_refl _) _ mem
              dsimp only
              omega
          · exact .inl (cm hz)
        · rw [List.length_append, List.length_append]
          simp only [List.length_cons, List.length_nil]
          unfold bN; omega
      unfold wb3
      walk_at "mp"
      have only : ∀ (ys : List D), (∀ y ∈ ys, y ∈ xs) → ys.length ≤ bN N → R (.tup ys) M3 := fun ys h1 h2 => fin ys M3 b (fun y hy => .inl (h1 y hy)) h2 d3 (by omega)
      refine ⟨fun _ => ?_, fun _ => ⟨fun _ => ⟨fun hl1 => ?_, fun _ => deep _ _ _ _⟩, fun _ => deep _ _ _ _⟩⟩
      · rw [cl]
        refine ⟨_, atI_nat (List.getElem?_eq_getElem hk'), by omega, ?_⟩
        have l1 := c1 none (some (k : Int))
        have l2 := c1 (some (k : Int)) none
        rw [ad]
        refine ⟨by simp only [List.length_cons, List.length_nil]; omega, ?_⟩
        rw [cl, ad]
        refine ⟨by rw [List.length_append]; simp only [List.length_cons, List.length_nil]; omega, only _ (fun y hy => ?_) ?_⟩
        · rcases List.mem_append.mp hy with hy | hy
          · rcases List.mem_append.mp hy with hy | hy
            · exact cm hy
            · rw [List.mem_singleton.mp hy]; exact List.getElem_mem _
          · exact cm hy
        · rw [List.length_append, List.length_append]
          simp only [List.length_cons, List.length_nil]
          unfold bN; omega
      · obtain ⟨o, ho⟩ : ∃ o : Nat, ((k : Int) + 1) % (xs.length : Int) = (o : Nat) := ⟨(((k : Int) + 1) % (xs.length : Int)).toNat, by have := Int.emod_nonneg ((k : Int) + 1) (show (xs.length : Int) ≠ 0 by omega); omega⟩
        have ho2 : o < xs.length := by have := Int.emod_lt_of_pos ((k : Int) + 1) (show (0 : Int) < (xs.length : Int) by omega); omega
        rw [ho]
        obtain ⟨lo, hlo⟩ : ∃ lo : Nat, (if (o : Int) < (k : Int) then (o : Int) else (k : Int)) = (lo : Nat) ∧ lo < xs.length := by
          by_cases z : (o : Int) < (k : Int)
          · exact ⟨o, by rw [if_pos z], ho2⟩
          · exact ⟨k, by rw [if_neg z], hk'⟩
        obtain ⟨hi, hhi⟩ : ∃ hi : Nat, (if (o : Int) > (k : Int) then (o : Int) else (k : Int)) = (hi : Nat) ∧ hi < xs.length := by
          by_cases z : (o : Int) > (k : Int)
          · exact ⟨o, by rw [if_pos z], ho2⟩
          · exact ⟨k, by rw [if_neg z], hk'⟩
        rw [hlo.1, hhi.1]
        have l1 := c1 none (some (lo : Int))
        have l2 := c1 (some ((lo : Int) + 1)) (some (hi : Int))
        have l3 := c1 (some ((hi : Int) + 1)) none
        refine ⟨by omega, ?_⟩
        rw [cl]
        refine ⟨_, atI_nat (List.getElem?_eq_getElem hhi.2), by omega, ?_⟩
        rw [ad]
        refine ⟨by simp only [List.length_cons, List.length_nil]; omega, ?_⟩
        rw [cl, ad]
        refine ⟨by rw [List.length_append]; simp only [List.length_cons, List.length_nil]; omega, _, atI_nat (List.getElem?_eq_getElem hlo.2), by omega, ?_⟩
        rw [ad]
        refine ⟨by rw [List.length_append, List.length_append]; simp only [List.length_cons, List.length_nil]; omega, ?_⟩
        rw [cl, ad]
        refine ⟨by rw [List.length_append, List.length_append, List.length_append]; simp only [List.length_cons, List.length_nil]; omega, only _ (fun y hy => ?_) ?_⟩
        · simp only [List.mem_append, List.mem_singleton] at hy
          rcases hy with (((hy | rfl) | hy) | rfl) | hy
          · exact cm hy
          · exact List.getElem_mem _
          · exact cm hy
          · exact List.getElem_mem _
          · exact cm hy
        · rw [List.length_append, List.length_append, List.length_append, List.length_append]
          simp only [List.length_cons, List.length_nil]
          unfold bN; omega
    refine ⟨fun _ => ?_, fun _ => ⟨fun _ => ?_, fun _ => last _ _ _ _ _ _ p2 d2 (by omega)⟩⟩
    · refine ⟨_, rfl, ?_⟩
      rw [cl]
      refine ⟨_, rfl, ?_⟩
      rw [cl, ad]
      have l1 := c1 none (some (k : Int))
      have l2 := c1 (some ((k : Int) + 1)) none
      refine ⟨by omega, fin _ M2 _ (fun y hy => .inl ?_) ?_ d2 (by omega)⟩
      · rcases List.mem_append.mp hy with hy | hy
        · exact cm hy
        · exact cm hy
      · rw [List.length_append]
        unfold bN; omega
    · rw [draw_at p2]
      refine ⟨by omega, by omega, fun d hd0 hd1 => ?_⟩
      have d3 : DrS p r c (m + 1 + 1 + 1) M (mupd M2 p (.pool r c (m + 1 + 1 + 1))) := d2.ask p2
      have p3 : mupd M2 p (.pool r c (m + 1 + 1 + 1)) p = some (.pool r c (m + 1 + 1 + 1)) := mupd_same
      generalize mupd M2 p (.pool r c (m + 1 + 1 + 1)) = M3 at d3 p3
      walk_at "mp"
      refine ⟨fun _ q hq => mkR _ _ ⟨⟨_, mupd_same⟩, Nat.zero_le _⟩ ((d3.sub (Sub.new hq)).le (by omega)), fun _ => last _ _ _ _ _ _ p3 d3 (by omega)⟩
  | str z =>
    have hz : z.length ≤ N := hv
    walk_at "mp"
    have lx : (Str.ofString "x").length = 1 := rfl
    refine ⟨by rw [lx]; omega, rfl, upper_at (by omega) ⟨by omega, pick_at hp (by omega) rfl (by simp) (leaf _ fun y hy => ?_)⟩⟩
    simp only [List.mem_cons, List.not_mem_nil, or_false] at hy
    rcases hy with rfl | rfl | rfl | rfl | rfl
    · refine ⟨?_, Nat.zero_le _⟩
      have e : (z ++ Str.ofString "x").length = z.length + (Str.ofString "x").length := strLen_append _ _
      show (z ++ Str.ofString "x").length ≤ bN N
      unfold bN; omega
    · exact ⟨Nat.zero_le _, Nat.zero_le _⟩
    · refine ⟨?_, Nat.zero_le _⟩
      have := PyProof.Rows.len_upper z
      show (Txt.upper z).length ≤ bN N
      unfold bN; omega
    · exact ⟨trivial, Nat.zero_le _⟩
    · exact ⟨Nat.zero_le _, Nat.zero_le _⟩
  | int i =>
    have hi : i.natAbs ≤ N := hv
    have hlog : i.natAbs.log2 < 20 := by
      by_cases h0 : i.natAbs = 0
      · rw [h0]; decide
      · exact (Nat.log2_lt h0).mpr (by omega)
    have kd : ∀ Q : D → Mem → Prop, Q (.int 2) M → r__law_kind.f [.int i] M Q := fun Q q => by rw [kind_at]; exact ⟨⟨_, rfl, by simp⟩, q⟩
    walk_at "mp"
    refine kd _ ?_
    walk_at "mp"
    refine ⟨⟨i, rfl, by omega, by omega, by omega, pick_at hp (by omega) rfl (by simp) (leaf _ fun y hy => ?_)⟩, fun z => absurd trivial z⟩
    simp only [List.mem_cons, List.not_mem_nil, or_false] at hy
    rcases hy with rfl | rfl | rfl | rfl | rfl | rfl | rfl | rfl | rfl | rfl
    · refine ⟨?_, Nat.zero_le _⟩
      show (i + 1).natAbs ≤ bN N
      unfold bN; omega
    · refine ⟨?_, Nat.zero_le _⟩
      show (i - 1).natAbs ≤ bN N
      unfold bN; omega
    · refine ⟨?_, Nat.zero_le _⟩
      show (i + 1).natAbs ≤ bN N
      unfold bN; omega
    · refine ⟨?_, Nat.zero_le _⟩
      show (i - 1).natAbs ≤ bN N
      unfold bN; omega
    · exact ⟨Nat.zero_le _, Nat.zero_le _⟩
    · refine ⟨?_, Nat.zero_le _⟩
      show (i + 16).natAbs ≤ bN N
      unfold bN; omega
    · exact ⟨trivial, Nat.zero_le _⟩
    · exact ⟨trivial, Nat.zero_le _⟩
    · refine ⟨?_, Nat.zero_le _⟩
      have := int_text_length_le (a := i) (k := 20) (by decide) hlog
      have e : (Str.ofString (toString i)).length = (toString i).length := PySem.ofString_length _
      show (Str.ofString (toString i)).length ≤ bN N
      unfold bN; omega
    · refine ⟨⟨by show 1 ≤ bN N; unfold bN; omega, ?_, trivial⟩, Nat.le_refl _⟩
      show i.natAbs ≤ bN N
      unfold bN; omega
  | non =>
    have four : ∀ a, M a = none → r__law_draw.f [.ref p, .int 4] (mupd M a (.lst [.int 0, .tup [], .bl false, .str (Str.ofString "x")])) fun e M2 => ixF (.ref a) e M2 fun x => R x M2 := pick_at hp (by omega) rfl (by simp) (leaf _ fun y hy => by
      simp only [List.mem_cons, List.not_mem_nil, or_false] at hy
      rcases hy with rfl | rfl | rfl | rfl
      · exact ⟨Nat.zero_le _, Nat.zero_le _⟩
      · exact ⟨⟨Nat.zero_le _, trivial⟩, Nat.succ_le_succ (Nat.zero_le _)⟩
      · exact ⟨trivial, Nat.zero_le _⟩
      · refine ⟨?_, Nat.zero_le _⟩
        show (Str.ofString "x").length ≤ bN N
        have lx : (Str.ofString "x").length = 1 := rfl
        unfold bN; omega
    )
    walk_at "mp"
    rw [kind_at]
    refine ⟨⟨_, rfl, by simp⟩, ?_⟩
    rw [show kindD D.non M = 6 from rfl]
    walk_at "mp"
    exact ⟨fun z => absurd z (by decide), fun _ => ⟨by omega, by omega, four⟩⟩
  | bl b =>
    have four : ∀ a, M a = none → r__law_draw.f [.ref p, .int 4] (mupd M a (.lst [.int 0, .tup [], .bl false, .str (Str.ofString "x")])) fun e M2 => ixF (.ref a) e M2 fun x => R x M2 := pick_at hp (by omega) rfl (by simp) (leaf _ fun y hy => by
      simp only [List.mem_cons, List.not_mem_nil, or_false] at hy
      rcases hy with rfl | rfl | rfl | rfl
      · exact ⟨Nat.zero_le _, Nat.zero_le _⟩
      · exact ⟨⟨Nat.zero_le _, trivial⟩, Nat.succ_le_succ (Nat.zero_le _)⟩
      · exact ⟨trivial, Nat.zero_le _⟩
      · refine ⟨?_, Nat.zero_le _⟩
        show (Str.ofString "x").length ≤ bN N
        have lx : (Str.ofString "x").length = 1 := rfl
        unfold bN; omega
    )
    walk_at "mp"
    rw [kind_at]
    refine ⟨⟨_, rfl, by simp⟩, ?_⟩
    rw [show kindD (D.bl b) M = 1 from rfl]
    walk_at "mp"
    exact ⟨fun z => absurd z (by decide), fun _ => ⟨by omega, by omega, four⟩⟩
  | ref a =>
    have four : ∀ a, M a = none → r__law_draw.f [.ref p, .int 4] (mupd M a (.lst [.int 0, .tup [], .bl false, .str (Str.ofString "x")])) fun e M2 => ixF (.ref a) e M2 fun x => R x M2 := pick_at hp (by omega) rfl (by simp) (leaf _ fun y hy => by
      simp only [List.mem_cons, List.not_mem_nil, or_false] at hy
      rcases hy with rfl | rfl | rfl | rfl
      · exact ⟨Nat.zero_le _, Nat.zero_le _⟩
      · exact ⟨⟨Nat.zero_le _, trivial⟩, Nat.succ_le_succ (Nat.zero_le _)⟩
      · exact ⟨trivial, Nat.zero_le _⟩
      · refine ⟨?_, Nat.zero_le _⟩
        show (Str.ofString "x").length ≤ bN N
        have lx : (Str.ofString "x").length = 1 := rfl
        unfold bN; omega
    )
    obtain ⟨xs, ha⟩ := hv
    have ty : tyName (.ref a) M = some "list" := by simp [tyName, ha]
    walk_at "mp"
    refine ⟨_, ty, _, rfl, fun z => absurd z (by decide), fun _ => ⟨_, ty, _, rfl, fun z => absurd z (by decide), fun _ => ?_⟩⟩
    rw [kind_at]
    refine ⟨⟨_, ty, by simp⟩, ?_⟩
    rw [show kindD (D.ref a) M = 5 by simp [kindD, ty, kindN]]
    walk_at "mp"
    exact ⟨fun z => absurd z (by decide), fun _ => ⟨by omega, by omega, four⟩⟩
  | ty t => exact hv.elim
  | fl xs => exact hv.elim
abbrev r__law_bent : WN := rr__law_bent 5
def w__law_bends : WS :=
    sSeq (sAsg (wLst (aCons (wVar 1) (aNil))) (gN 3))
    (sSeq (sFor (iR1 (aCons (wVar 2) (aNil))) (gN 4) (sSeq (sAsg (wCB r__law_bent (aCons (wVar 0) (aCons (wVar 1) (aNil)))) (gN 5))
    (sSeq (sIf (wtB (wOp rEq (wCB r__law_draw (aCons (wVar 0) (aCons (wC (.int 5)) (aNil)))) (wC (.int 0)))) (sAsg (wCB r__law_bent (aCons (wVar 0) (aCons (wVar 5) (aNil)))) (gN 5)) (sNil))
    (sDrop (wBM "list" mAppend (wVar 3) (aCons (wVar 5) (aNil)))))))
    (sRet (wOp rAdd (wVar 3) (wLst (aCons (wC .non) (aCons (wC (.int 0)) (aCons (wC (.bl true)) (aCons (wC (.str "")) (aCons (wTup (aNil)) (aCons (wLst (aNil)) (aCons (wC (.str "x")) (aCons (wTup (aCons (wC (.int 0)) (aNil))) (aCons (wTup (aCons (wC (.str "x")) (aCons (wC (.int 1)) (aNil)))) (aCons (wVar 1) (aNil)))))))))))))))
/-- rows of bent data -/
def bB (N : Nat) : Nat := bN (bN N)
def r__law_bends : WN := nDrOf 320 (fun (x : (D × Nat) × Nat) ds M => ∃ p, ds = [.ref p, x.1.1, .int ((x.2 : Nat) : Int)] ∧ x.2 ≤ 10 ∧ (1 ≤ x.1.2 ∧ x.1.2 ≤ 100000) ∧ x.1.1.anyV x.1.2 M ∧ x.1.1.tdp ≤ 3)
  fun x M d M' => ∃ q rows, d = .ref q ∧ M q = none ∧ M' q = some (.lst rows) ∧ rows.length ≤ 21 ∧ ∀ y ∈ rows, y.anyV (bB x.1.2) M' ∧ y.tdp ≤ 5
theorem bent_at {v : D} {N : Nat} {p r c : Addr} {m : Nat} {M : Mem} {Q : D → Mem → Prop} (hp : M p = some (.pool r c m)) (hm : m + 15 ≤ 1000000000) (hN : 1 ≤ N ∧ N ≤ 1000000) (hv : v.anyV N M) (hd : v.tdp ≤ 4) (q : ∀ y M', DrS p r c (m + 15) M M' → y.anyV (bN N) M' → y.tdp ≤ v.tdp + 1 → Q y M') : r__law_bent.f [.ref p, v] M Q :=
  drof_at (k := 3 * (4 + 1)) hp hm (v, N) ⟨p, rfl, hN, hv, hd⟩ fun y M' d g => q y M' d g.1 g.2
theorem law__law_bends : FnLaw 6 3 w__law_bends r__law_bends := law_drof fun ⟨⟨v, N⟩, many⟩ p r c m rest M cn hp hk ⟨p', e, hmany, ⟨hN1, hN2⟩, hv, hd⟩ => by
  simp only [List.cons.injEq, D.ref.injEq] at e
  obtain ⟨rfl, rfl⟩ := e
  refine ⟨rfl, ?_⟩
  intro R mkR
  dsimp only at hmany hN1 hN2 hv hd mkR
  have sz := sizeLine_eq
  have hpn : M p ≠ none := by rw [hp]; exact fun z => by cases z
  have bb : bB N = 9 * N + 120 := by unfold bB bN; omega
  unfold w__law_bends rtE
  refine seq_cut (fun ρ M1 => ∃ f, ρ = [some (.ref p), some v, some (.int (many : Nat)), some (.ref f), none, none] ∧ M f = none ∧ M1 f = some (.lst [v]) ∧ DrS p r c m M M1) (fun I mk => ?_) ?_
  · walk_at "mp"
    exact ⟨by omega, fun f hf => mk _ _ ⟨f, rfl, hf, mupd_same, (DrS.refl hp).upd hf hpn⟩⟩
  rintro _ M1 ⟨f, rfl, hf, h1, d1⟩
  have nfp : f ≠ p := fun z => hpn (by rw [← z]; exact hf)
  refine seq_cut (fun ρ M2 => ∃ (rows : List D) (x4 x5 : Option D), ρ = [some (.ref p), some v, some (.int (many : Nat)), some (.ref f), x4, x5] ∧ M2 f = some (.lst rows) ∧ DrS p r c (m + 31 * many) M M2 ∧ rows.length ≤ 1 + many ∧ ∀ y ∈ rows, y.anyV (bB N) M2 ∧ y.tdp ≤ 5) (fun I mk => ?_) ?_
  · walk_at "mp"
    refine ⟨by omega, by omega, ?_⟩
    refine loop_r0 (fun i ρ M2 => ∃ (rows : List D) (x4 x5 : Option D), ρ = [some (.ref p), some v, some (.int (many : Nat)), some (.ref f), x4, x5] ∧ M2 f = some (.lst rows) ∧ DrS p r c (m + 31 * i) M M2 ∧ rows.length ≤ 1 + i ∧ ∀ y ∈ rows, y.anyV (bB N) M2 ∧ y.tdp ≤ 5) ?step ?fin _ _ ⟨[v], _, _, rfl, h1, d1, Nat.le_refl _, fun y hy => ?_⟩
    case fin =>
      rintro ρ M2 ⟨rows, x4, x5, rfl, h2, d2, hl, hy⟩
      exact mk _ _ ⟨rows, _, _, rfl, h2, d2, hl, hy⟩
    case step =>
      rintro J mkJ i ρ M2 hi ⟨rows, x4, x5, rfl, h2, d2, hl, hy⟩
      obtain ⟨m2, hm2, p2⟩ := d2.1
      have up2 : ∀ {N' : Nat} {M' : Mem} {b : Nat} {y : D}, N' ≤ bB N → DrS p r c b M2 M' → y.anyV N' M2 → y.anyV (bB N) M' := fun hN d h => h.up hN (d.lsts p2)
      walk_at "mp"
      refine bent_at p2 (by omega) ⟨hN1, by omega⟩ (hv.up (Nat.le_refl _) (d2.lsts hp)) (by omega) fun y M3 d3 g1 g2 => ?_
      obtain ⟨m3, hm3, p3⟩ := d3.1
      walk_at "mp"
      rw [draw_at p3]
      refine ⟨by omega, by omega, fun k hk0 hk1 => ?_⟩
      have d4 : DrS p r c (m2 + 15 + 1) M2 (mupd M3 p (.pool r c (m3 + 1))) := (d3.ask p3).le (by omega)
      have p4 : mupd M3 p (.pool r c (m3 + 1)) p = some (.pool r c (m3 + 1)) := mupd_same
      have g3 : y.anyV (bN N) (mupd M3 p (.pool r c (m3 + 1))) := g1.up (Nat.le_refl _) fun a xs h => ⟨xs, by rw [mupd_ne (fun z => by rw [z, p3] at h; cases h)]; exact h⟩
      generalize mupd M3 p (.pool r c (m3 + 1)) = M4 at d4 p4 g3
      -- a row more
      have add : ∀ (z : D) M5 x4, DrS p r c (m2 + 31) M2 M5 → z.anyV (bB N) M5 → z.tdp ≤ 5 → tyD "list" (.ref f) M5 ∧ ∃ x, M5 f = some (.lst x) ∧ x.length < sizeLine ∧ J (i + 1) [some (.ref p), some v, some (.int (many : Nat)), some (.ref f), x4, some z] (mupd M5 f (.lst (x ++ [z]))) := fun z M5 x4 d5 h5 h6 => by
        have hf5 : M5 f = some (.lst rows) := d5.2 f _ nfp h2
        rw [ty_lst hf5]
        refine ⟨trivial, _, hf5, by omega, mkJ _ _ _ ⟨rows ++ [z], _, _, rfl, mupd_same, ((d2.trans d5).le (by omega)).upd hf hpn, by rw [List.length_append, List.length_singleton]; omega, fun y' hy' => ?_⟩⟩
        have keep : ∀ {y : D}, y.anyV (bB N) M5 → y.anyV (bB N) (mupd M5 f (.lst (rows ++ [z]))) := fun {y} h => h.up (Nat.le_refl _) lsts_set
        rcases List.mem_append.mp hy' with g | g
        · exact ⟨keep (up2 (Nat.le_refl _) d5 (hy y' g).1), (hy y' g).2⟩
        · rw [List.mem_singleton.mp g]; exact ⟨keep h5, h6⟩
      walk_at "mp"
      refine ⟨fun _ => ?_, fun _ => add _ _ _ (d4.le (by omega)) (g3.up (by rw [bb]; unfold bN; omega) fun _ _ h => ⟨_, h⟩) (by omega)⟩
      refine bent_at p4 (by omega) ⟨by unfold bN; omega, by unfold bN; omega⟩ g3 (by omega) fun z M5 d5 k1 k2 => ?_
      walk_at "mp"
      exact add z M5 _ ((d4.trans d5).le (by omega)) k1 (by omega)
    · rw [List.mem_singleton.mp hy]
      exact ⟨hv.up (by rw [bb]; omega) (d1.lsts hp), by omega⟩
  rintro _ M2 ⟨rows, x4, x5, rfl, h2, d2, hl, hy⟩
  have lx : (Str.ofString "x").length = 1 := rfl
  walk_at "mp"
  refine ⟨by omega, by omega, fun a ha => ⟨by omega, by omega, by omega, fun b hb => ?_⟩⟩
  have nab : a ≠ b := fun z => by rw [← z, mupd_same] at hb; cases hb
  have hb2 : M2 b = none := by rw [mupd_ne (Ne.symm nab)] at hb; exact hb
  have ha4 : mupd (mupd M2 a (.lst [])) b (.lst [.non, .int 0, .bl true, .str (Str.ofString ""), .tup [], .ref a, .str (Str.ofString "x"), .tup [.int 0], .tup [.str (Str.ofString "x"), .int 1], v]) a = some (.lst []) := by rw [mupd_ne nab, mupd_same]
  have f4 : mupd (mupd M2 a (.lst [])) b (.lst [.non, .int 0, .bl true, .str (Str.ofString ""), .tup [], .ref a, .str (Str.ofString "x"), .tup [.int 0], .tup [.str (Str.ofString "x"), .int 1], v]) f = some (.lst rows) := (Sub.new hb) _ _ ((Sub.new ha) _ _ h2)
  have s4 : Sub M2 (mupd (mupd M2 a (.lst [])) b (.lst [.non, .int 0, .bl true, .str (Str.ofString ""), .tup [], .ref a, .str (Str.ofString "x"), .tup [.int 0], .tup [.str (Str.ofString "x"), .int 1], v])) := (Sub.new ha).trans (Sub.new hb)
  refine ⟨_, f4, _, mupd_same, by simp only [List.length_cons, List.length_nil]; omega, fun q hq => ?_⟩
  generalize mupd (mupd M2 a (.lst [])) b (.lst [.non, .int 0, .bl true, .str (Str.ofString ""), .tup [], .ref a, .str (Str.ofString "x"), .tup [.int 0], .tup [.str (Str.ofString "x"), .int 1], v]) = M4 at ha4 f4 s4 hq
  have d4 := d2.sub s4
  have hqM : M q = none := by
    cases e : M q with
    | none => rfl
    | some o =>
      by_cases z : q = p
      · obtain ⟨k, _, hk⟩ := d4.1
        rw [z, hk] at hq; cases hq
      · rw [d4.2 q o z e] at hq; cases hq
  refine mkR _ _ ⟨q, _, rfl, hqM, mupd_same, by rw [List.length_append]; simp only [List.length_cons, List.length_nil]; omega, fun y hy' => ?_⟩ ((d4.upd hqM hpn).le (by omega))
  rcases List.mem_append.mp hy' with g | g
  · exact ⟨((hy y g).1.up (Nat.le_refl _) s4.lsts).up (Nat.le_refl _) lsts_set, (hy y g).2⟩
  · simp only [List.mem_cons, List.not_mem_nil, or_false] at g
    rcases g with rfl | rfl | rfl | rfl | rfl | rfl | rfl | rfl | rfl | rfl
    · exact ⟨trivial, Nat.zero_le _⟩
    · exact ⟨Nat.zero_le _, Nat.zero_le _⟩
    · exact ⟨trivial, Nat.zero_le _⟩
    · exact ⟨Nat.zero_le _, Nat.zero_le _⟩
    · exact ⟨⟨Nat.zero_le _, trivial⟩, by decide⟩
    · exact ⟨lsts_set _ _ ha4, Nat.zero_le _⟩
    · exact ⟨by show (Str.ofString "x").length ≤ bB N; omega, Nat.zero_le _⟩
    · exact ⟨⟨by show 1 ≤ bB N; omega, by show 0 ≤ bB N; omega, trivial⟩, by decide⟩
    · exact ⟨⟨by show 2 ≤ bB N; omega, by show (Str.ofString "x").length ≤ bB N; omega, by show 1 ≤ bB N; omega, trivial⟩, by decide⟩
    · exact ⟨((hv.up (by rw [bb]; omega) (d4.lsts hp)).up (Nat.le_refl _) lsts_set), by omega⟩
/-! ### x += y of ints -/
def rIadd : W2 := ⟨fun d e M Q => ∃ i j : Int, d = .int i ∧ e = .int j ∧ Q (.int (i + j)) M, fun _ _ _ _ _ h ⟨i, j, e1, e2, q⟩ => ⟨i, j, e1, e2, h _ _ q⟩⟩
theorem e_rIadd_int (i j : Int) (M : Mem) (Q : D → Mem → Prop) : rIadd.f (.int i) (.int j) M Q = Q (.int (i + j)) M := propext ⟨fun ⟨_, _, e1, e2, q⟩ => by cases e1; cases e2; exact q, fun q => ⟨i, j, rfl, rfl, q⟩⟩
theorem ip_addD {X : Cx} : DIp X .Add rIadd := ⟨fun pins s σ H x y v u Q I rx ry ⟨d, e, M, Q', rd, re, rm, ⟨i, j, e1, e2, q⟩, po⟩ => by
  subst e1 e2
  exact ip_add pins s σ H x y v u Q I rx ry ⟨i, j, rel_int rd, rel_int re, po.here rm (.int _) q⟩⟩
/-! ### tuple(a range object) -/
def nTupR : WN := ⟨fun ds M Q => ∃ a lo hi, ds = [.ref a] ∧ M a = some (.rg lo hi) ∧ (-(2 ^ 62) ≤ lo ∧ lo < 2 ^ 62 ∧ -(2 ^ 62) ≤ hi ∧ hi < 2 ^ 62) ∧ (hi - lo).toNat ≤ 1000000 ∧ Q (.tup (rngD lo (hi - lo).toNat)) M, fun _ _ _ _ h ⟨a, lo, hi, e1, e2, e3, e4, q⟩ => ⟨a, lo, hi, e1, e2, e3, e4, h _ _ q⟩⟩
theorem tupr_at {a : Addr} {lo hi : Int} {M : Mem} {Q : D → Mem → Prop} (h : M a = some (.rg lo hi)) (hb : -(2 ^ 62) ≤ lo ∧ lo < 2 ^ 62 ∧ -(2 ^ 62) ≤ hi ∧ hi < 2 ^ 62) (hl : (hi - lo).toNat ≤ 1000000) (q : Q (.tup (rngD lo (hi - lo).toNat)) M) : nTupR.f [.ref a] M Q := ⟨a, lo, hi, rfl, h, hb, hl, q⟩
theorem f_tupR {X : Cx} (hc : X.calm = true) : DN X (.type "tuple") nTupR := ⟨fun pins s σ H xs us Q I rx ⟨ds, M, Q', rds, rm, ⟨a, lo, hi, e, h0, ⟨b1, b2, b3, b4⟩, hl, q⟩, po⟩ => by
  subst e
  obtain ⟨v, rfl, rv⟩ := rel1 rds
  rw [rel_ref rv] at rx
  obtain ⟨u, rfl, ru⟩ := vals1 rx
  cases ru
  have hr : H a = some (.rng lo hi) := rm a _ h0
  have sz := sizeLine_eq
  obtain ⟨t, u, w, hg⟩ := (show ObjOk X.prog X.w H s.heap a (.rng lo hi) from I.hok a _ hr)
  have hn : Builtin.Range.rangeSize lo hi 1 = (((hi - lo).toNat : Nat) : Int) := by rw [rangeSize_one]; split <;> omega
  refine L2.call_tuple_range (I.ok.hd hc) hg (small_one b1 b2 b3 b4) (n := (hi - lo).toNat) hn (by omega) fun h' tk acc keep hacc => ?_
  have rel : Vals ((List.range (hi - lo).toNat).map fun i => V.int (lo + (i : Nat))) acc.toList := by
    refine vals_of_at (by rw [List.length_map, List.length_range, Array.length_toList]; exact hacc.1.symm) fun j x y h1 h2 => ?_
    obtain ⟨t, rfl⟩ := hacc.2 j y (by rw [← Array.getElem?_toList]; exact h2)
    rw [List.getElem?_map] at h1
    obtain ⟨k, hk, rfl⟩ := Option.map_eq_some_iff.mp h1
    have hkj := (List.getElem?_eq_some_iff.mp hk).2
    rw [List.getElem_range] at hkj
    subst hkj
    refine ⟨t, ?_⟩
    rw [show lo + ((j : Nat) : Int) * 1 = lo + (j : Nat) by omega]
  have I1 : Inv X pins σ H { s with heap := h', toks := tk } := I.kept keep
  have hn0 : H h'.objs.size = none := I1.hok.fresh (Nat.le_refl _)
  have al : acc.toList.toArray = acc := Array.toArray_toList
  refine ⟨.ref _, _, I1.laid (t' := tk) (o := .tup ((List.range (hi - lo).toNat).map fun i => V.int (lo + (i : Nat)))) (fun b o z => Heap.get?_push_of_some _ z) (Nat.le_refl _) ⟨by rw [List.length_map, List.length_range]; omega, acc.toList, rel, by rw [al]; exact IsTup.new _ _⟩, rfl,
    po _ (.tup (rngD lo (hi - lo).toNat)) _ M (Step.beside hn0) (rm.beside hn0) (.tup (.inl upd_same) ?_) q⟩
  have eachI : ∀ l : List Nat, RelDs X.K (upd H h'.objs.size (.tup ((List.range (hi - lo).toNat).map fun i => V.int (lo + (i : Nat))))) (l.map fun i => D.int (lo + (i : Nat))) (l.map fun i => V.int (lo + (i : Nat))) := fun l => by
    induction l with
    | nil => exact .nil
    | cons k l ih => exact .cons (.int _) ih
  exact eachI _⟩
end MP

namespace MP
open PySem PySem.Spec PyProof.Rows L2

/-! ### for i, x in enumerate(a tuple) -/
theorem enum_new {t : Addr} {items : Array Value} : Meets (Builtin.«enumerate.__new__» ⟨[.type "enumerate", .ref t], []⟩) (fun _ R s => s.heap.IsTuple t items ∧
    R (.ok (.ret (.ref (s.heap.objs.size + 1)))) { s with heap := (s.heap.push { cls := .type "tuple_iterator", data := .fields #[.ref t, .int 0 0] }).push { cls := .type "enumerate", data := .fields #[.none, .bool false, .ref s.heap.objs.size, rawInt 0, .none, .none] } }) :=
  .of_wp fun prog w A R ⟨hp, g, d, tk, os⟩ ⟨ht, hR⟩ => by
    have sub := sub_enumerate
    have start : ∀ {A' : Around} {E : Value → Shared → Prop} {Q : Value → Shared → Prop}, Q (.ref hp.objs.size) ⟨hp.push { cls := .type "tuple_iterator", data := .fields #[.ref t, .int 0 0] }, g, d, tk, os⟩ → wpAny (model prog w) A' (pyIter (.ref t)) Q E ⟨hp, g, d, tk, os⟩ :=
      fun q => (begins_tuple t items).iter prog w _ _ ⟨hp, g, d, tk, os⟩ _ ht q
    have size : (hp.push { cls := .type "tuple_iterator", data := .fields #[.ref t, .int 0 0] }).objs.size = hp.objs.size + 1 := Heap.size_push ..
    obtain ⟨o, ho, hcls, n, hdat⟩ := ht
    wp_walk using start, wpAny_loadPart' ho
    refine wpAny_stack_any fun st => wpAny_pure ?_
    split
    case _ =>
      rename_i c _ _ _ _ _
      cases (c == Value.type "enumerate") <;> (wp_walk using start, wpAny_loadPart' ho; exact ⟨_, by rw [size], hR⟩)
    case _ =>
      wp_walk using start, wpAny_loadPart' ho
      exact ⟨_, by rw [size], hR⟩
def ItE (K : PySem.W.Frag) (a : Addr) (n : Nat) : It where
  go i H := ∃ (xs : List V) (x : V), SqT K H a xs ∧ xs.length = n ∧ xs[i]? = some x
  yld i H v H' := ∃ T x, v = .ref T ∧ H T = none ∧ H' = upd H T (.tup [.int (i : Nat), x]) ∧ ∀ xs : List V, SqT K H a xs → xs[i]? = some x
  stop i H := ∃ xs : List V, SqT K H a xs ∧ xs.length = n ∧ n ≤ i
section
variable {X : Cx} {elts : List Expr} {kk : Nat} {tpos : Pos}
theorem turn_e (a e it : Addr) (n : Nat) : Turn X.prog X.w X.K (.Tuple elts kk tpos) (ItE X.K a n) [e, it] e (fun i h => (∃ old, IsEnum h e it ((i : Nat) : Int) old) ∧ h.IsTupleIter it a i ∧ i ≤ n ∧ e ≠ it ∧ a ≠ it ∧ a ≠ e) where
  mem := List.mem_cons_self ..
  obj i h st b hb := by
    obtain ⟨⟨old, he⟩, ⟨o, ho, _, hd⟩, _⟩ := st
    rcases List.mem_cons.mp hb with rfl | hb
    · exact ⟨_, he, fun v z => nomatch z⟩
    · rw [List.mem_singleton.mp hb]
      exact ⟨o, ho, fun v z => by rw [hd] at z; cases z⟩
  keep i h h' st k := by
    obtain ⟨⟨old, he⟩, hi, hne⟩ := st
    exact ⟨⟨old, k e (List.mem_cons_self ..) _ he⟩, hi.at fun o z => k it (by simp) o z, hne⟩
  self A i s Q E st h := by
    obtain ⟨⟨_, he⟩, _⟩ := st
    exact wpAny_pyIter_enum he h
  item Y hP hw hK hc i pins s σ H E I hf st hg := by
    obtain ⟨⟨old, he⟩, hit, hin, ne, ni, nae⟩ := st
    obtain ⟨xs, x, hq, hn, hx⟩ := hg
    rw [← hK] at hq
    obtain ⟨its, rv, p, hz⟩ := I.tuple hq
    obtain ⟨u, hu, ru⟩ := rv.get hx
    have lt := (List.getElem?_eq_some_iff.mp hu).1
    have hel : e < s.heap.objs.size := Heap.lt_size he
    have hil : it < s.heap.objs.size := by obtain ⟨_, z, _⟩ := hit; exact Heap.lt_size z
    have hidx : its.toArray[i]? = some u := by simpa using hu
    refine PySem.wpAny_pyNext_enum_itemC (Draws.tuple (A := Y.A.in1) (I.ok.hd hc) it a ni its.toArray) he ⟨hit, p⟩ (by simpa using lt) ne (by simp only [List.mem_cons, List.not_mem_nil, or_false, not_or]; exact ⟨ne, Ne.symm nae⟩) fun w h' tk hw' out st' hT _ old' => ⟨_, rfl, ?_⟩
    have hw' : its.toArray[i]? = some w := hw'
    rw [hidx] at hw'
    cases hw'
    refine wpAny_letOwnedTupleGo_enum (s := { s with heap := h', toks := tk + 1 }) out fun h2 he2 sb => ?_
    have tup : h2.get? s.heap.objs.size = some { cls := .type "tuple", data := .seq #[.int i tk, u] } := (sb.2 _ (Nat.ne_of_gt hel)).trans hT
    have nw : ObjOk Y.prog Y.w (upd H s.heap.objs.size (.tup [.int (i : Nat), x])) h2 s.heap.objs.size (.tup [.int (i : Nat), x]) :=
      ⟨by show 2 ≤ sizeLine; decide, [.int i tk, u], .cons ⟨_, rfl⟩ (.cons ru .nil), ⟨_, tup, rfl, _, rfl⟩⟩
    have I2 := I.turnedNew (t' := tk + 1) (ch := [e, it]) (h' := h2) (fun b o nb z => (sb.2 b (fun y => nb (by rw [y]; simp))).trans (old' b o (fun y => nb (by rw [y]; simp)) (fun y => nb (by rw [y]; simp)) z)) hf (Nat.le_refl _) nw
    refine ⟨.ref s.heap.objs.size, _, I2, rfl, ⟨_, x, rfl, I.hok.fresh (Nat.le_refl _), rfl, fun ys hy => by rw [← hK] at hy; rw [I.tuple_inj hy hq]; exact hx⟩, ⟨⟨u, ?_⟩, st'.1.at fun o z => (sb.2 it (Ne.symm ne)).trans z, by have := (List.getElem?_eq_some_iff.mp hx).1; omega, ne, ni, nae⟩, fun b hb => ?_⟩
    · rw [show ((i + 1 : Nat) : Int) = (i : Int) + 1 by omega]; exact he2
    · have lb : b < s.heap.objs.size := by
        rcases List.mem_cons.mp hb with rfl | hb
        · exact hel
        · rw [List.mem_singleton.mp hb]; exact hil
      rw [upd_ne (Nat.ne_of_lt lb)]
      exact (hf b hb).1
  done Y hP hw hK hc i pins s σ H E I hf st hg := by
    obtain ⟨⟨old, he⟩, hit, hin, ne, ni, nae⟩ := st
    obtain ⟨xs, hq, hn, hx⟩ := hg
    rw [← hK] at hq
    obtain ⟨its, rv, p, hz⟩ := I.tuple hq
    have fo := hf it (by simp)
    have lv := rv.length
    have ei : i = its.toArray.size := by rw [List.size_toArray]; omega
    exact wpAny_pyNext_enum_endD (Draws.tuple (A := Y.A.in1) (I.ok.hd hc) it a ni its.toArray) he (show s.heap.IsTupleIter it a its.toArray.size ∧ s.heap.IsTuple a its.toArray from ⟨by rw [← ei]; exact hit, p⟩) fun h' eb => ⟨rfl, I.turned (t' := s.toks) (fun b o nb z => eb b o nb z) fo.1 fo.2.1 fo.2.2.2.1 fo.2.2.2.2.1 fo.2.2.2.2.2⟩
end
section
variable {P : Program} {w : World} {K : PySem.W.Frag} {H : Hp}
theorem itok_e {a : Addr} {ds : List D} {xs : List V} (h : TupAt K H a xs) (r : RelDs K H ds xs) : ItOk P w K (ItE K a ds.length) (enumD 0 ds) (fun _ => True) H := fun i H1 M1 k m1 _ => by
  have h1 := (h.keep k).sq
  have r1 := r.keep k
  have hl := r.length
  refine ⟨fun hi => ⟨xs, h1, hl.symm, by rw [enumD_length] at hi; exact hi⟩, fun d hd => ?_⟩
  rw [enumD_get, Nat.zero_add] at hd
  obtain ⟨y, hy, e⟩ := Option.map_eq_some_iff.mp hd
  subst e
  obtain ⟨v, hv, rv⟩ := r1.get hy
  refine ⟨⟨xs, v, h1, hl.symm, hv⟩, fun x H' hyl => ?_⟩
  obtain ⟨T, x', e1, hT, e2, q⟩ := hyl
  subst e1 e2
  have := q xs h1
  rw [hv] at this
  cases this
  exact new_tup m1 hT (.cons (.int _) (.cons rv .nil))
end
def iEnumT (t : WA) : WI := ⟨fun ρ M Q => t.f ρ M fun ds M1 => ∃ xs, ds = [.tup xs] ∧ Q (enumD 0 xs) (fun _ => True) M1, fun ρ M Q Q' h q => t.mono _ _ _ _ (fun _ _ ⟨xs, e, q⟩ => ⟨xs, e, h _ _ _ q⟩) q⟩
theorem e_iEnumT (t : WA) (ρ : Sl) (M : Mem) (Q : List D → (Mem → Prop) → Mem → Prop) : (iEnumT t).f ρ M Q = (t.f ρ M fun ds M1 => ∃ xs, ds = [.tup xs] ∧ Q (enumD 0 xs) (fun _ => True) M1) := rfl
section
variable {X : Cx}
theorem di_enumT {e : Expr} {t : WA} {p pos tpos : Pos} {elts : List Expr} {kk : Nat} (hg : Gl X "enumerate") (hm : X.mg "enumerate" = none) (ha : DA X [e] t) (hs : starEach [e] X.env = [(false, eval e X.env)] := by rfl) :
    DI X (.Tuple elts kk tpos) (.Call (.Name "enumerate" p) [e] [] pos) (iEnumT t) := ⟨⟨fun pins s σ H R I ⟨ρ, M, Q', rs, rm, q, po⟩ => by
  refine Call_ (ld_blt I hg hm boot_enumerate (PyProof.Rows.callWith_type1 (thn (ha.pa.run pos pins s σ H (fun vs H1 => ∃ ds M1, Step H M H1 M1 ∧ RelM X.prog X.w X.K H1 M1 ∧ RelDs X.K H1 ds vs ∧ ∃ xs, ds = [.tup xs] ∧ Q' (enumD 0 xs) (fun _ => True) M1) I
    ⟨ρ, M, _, rs, rm, q, fun vs ds H1 M1 st1 m1 r1 q1 => ⟨ds, M1, st1, m1, r1, q1⟩⟩) fun us s1 ⟨vs, H1, I1, r1, ds, M1, st1, m1, rd, xs, ed, q1⟩ => ?_) hs rfl))
  subst ed
  obtain ⟨v, rfl, rv⟩ := rel1 rd
  cases rv with
  | @tup a _ ys ht hr =>
    obtain ⟨u, rfl, ru⟩ := vals1 r1
    cases ru
    obtain ⟨its, rits, tp, hz⟩ := I1.tuple ht.sq
    have la : a < s1.heap.objs.size := by obtain ⟨o, ho, _⟩ := tp; exact Heap.lt_size ho
    have size : (s1.heap.push { cls := .type "tuple_iterator", data := .fields #[.ref a, .int 0 0] }).objs.size = s1.heap.objs.size + 1 := Heap.size_push ..
    have he : IsEnum ((s1.heap.push { cls := .type "tuple_iterator", data := .fields #[.ref a, .int 0 0] }).push { cls := .type "enumerate", data := .fields #[.none, .bool false, .ref s1.heap.objs.size, rawInt 0, .none, .none] }) (s1.heap.objs.size + 1) s1.heap.objs.size 0 .none := by
      have := Heap.get?_push_size (s1.heap.push { cls := .type "tuple_iterator", data := .fields #[.ref a, .int 0 0] }) (o := { cls := .type "enumerate", data := .fields #[.none, .bool false, .ref s1.heap.objs.size, rawInt 0, .none, .none] }) rfl
      rw [size] at this; exact this
    refine callType_new F.called_enumerate (by decide) (F.typeCall_enumerate_1 _) (F.newCall_enumerate_1 _) (fun obj => F.args_object_init_2 obj _) F.entry_enumerate_new enum_new ⟨tp, ⟨⟨_, he, rfl⟩, wpAny_pyIter_enum he ?_⟩⟩
    have keep : ∀ b o, s1.heap.get? b = some o → ((s1.heap.push { cls := .type "tuple_iterator", data := .fields #[.ref a, .int 0 0] }).push { cls := .type "enumerate", data := .fields #[.none, .bool false, .ref s1.heap.objs.size, rawInt 0, .none, .none] }).get? b = some o := fun b o z => Heap.get?_push_of_some _ (Heap.get?_push_of_some _ z)
    have I2 : Inv X pins σ H1 { s1 with heap := (s1.heap.push { cls := .type "tuple_iterator", data := .fields #[.ref a, .int 0 0] }).push { cls := .type "enumerate", data := .fields #[.none, .bool false, .ref s1.heap.objs.size, rawInt 0, .none, .none] } } := I1.kept (t' := s1.toks) keep
    refine ⟨s1.heap.objs.size + 1, [s1.heap.objs.size + 1, s1.heap.objs.size], _, _, H1, rfl, I2, turn_e a (s1.heap.objs.size + 1) s1.heap.objs.size xs.length, ⟨⟨.none, he⟩, ⟨_, Heap.get?_push_of_some _ (Heap.get?_push_size _ rfl), rfl, rfl⟩, Nat.zero_le _, Nat.succ_ne_self _, Nat.ne_of_lt la, Nat.ne_of_lt (Nat.lt_succ_of_lt la)⟩, fun b hb => ?_, po _ _ _ H1 M1 st1 m1 q1 (itok_e ht hr)⟩
    have hle : s1.heap.objs.size ≤ b := by
      rcases List.mem_cons.mp hb with z | hb
      · rw [z]; exact Nat.le_succ _
      · rw [List.mem_singleton.mp hb]; exact Nat.le_refl _
    exact I1.fpOk hle (I1.hok.fresh hle)⟩⟩
end
end MP

/-! tests of kinds, for any data: promises and laws of the common defs -/
namespace KA
open PySem PySem.Spec PyProof.Rows L2 MP


local macro_rules | `(tactic| walk_at "mp1") => `(tactic| simp only [e_wVar, e_wC, e_wOp, e_wUn, e_aNil, e_aCons, e_wCB, e_wCK, e_wTup, e_wLst, e_wtB, e_wtV, e_wtNot, e_wtAnd, e_wtOr, e_wAnd, e_wOr, e_wNot, e_wIf, e_wChain, e_wSl, e_oNone, e_oSome, e_wBM, e_wLc, e_wLc2, e_wDc, e_wDn, e_wDn2, e_nRng1, e_iRg, e_wRev, e_revF_tup, e_wtYes, e_sNil, e_sSeq, e_sBreak, e_sCont, e_sDrop, e_sRet, e_sRetN, e_sIf, e_sAsg, e_sPar, e_sAug, e_sFor, e_gN, e_gsNil, e_gsCons, e_gT, e_gSubD, e_iSeq, e_iR1, e_iR2, e_iEnumL, e_iEnumT, e_iZipW, e_mAppend, e_mExtend, e_mIndex, e_nLen, e_nTuple, e_nList, e_nBls, e_rIx, e_rIadd_int, e_nSorted, e_nSortedK, e_nSortedS, e_wDNew, e_wDisp2, e_iKy, e_iPr, e_nBest, e_kBestD, e_rAdd_int, e_rAdd_tup, e_rAdd_str, e_rAdd_ref, e_rSub_int, e_rMulA_int, e_rMulA_tup, e_rMulA_ref, e_rFdiv_int, e_rMod_int, e_rPow_int, e_rLe_int, e_rGt_int, e_rGe_int, e_rLt_int, e_rLt_tup, e_rEqn_int, e_rEqn_str, e_rEqn_bl, e_rEqn_tup, e_rEqn_ref, e_rIsn_non, e_rIsn_bl, e_rInn_tup, e_rNeg_int, e_ix_tup, e_ix_fl, len_tup, len_fl, items_tup, items_fl, iseq_tup, iseq_fl, e_nInt_int, e_nInt_bl, e_nInt1_int, e_nInt2_int, e_r2F, e_tru_bl, e_tru_int, e_tru_tup, tn_int, tn_bl, tn_str, tn_non, tn_tup, tn_fl, kb_int_int, kb_int_bool, kb_int_str, kb_int_tuple, kb_int_list, kb_bool_int, kb_bool_bool, kb_bool_str, kb_bool_tuple, kb_bool_list, kb_str_int, kb_str_bool, kb_str_str, kb_str_tuple, kb_str_list, kb_NoneType_int, kb_NoneType_bool, kb_NoneType_str, kb_NoneType_tuple, kb_NoneType_list, kb_tuple_int, kb_tuple_bool, kb_tuple_str, kb_tuple_tuple, kb_tuple_list, kb_list_int, kb_list_bool, kb_list_str, kb_list_tuple, kb_list_list, s_at0, s_at1, s_at2, s_at3, s_at4, s_ex2, startD, List.map_cons, List.map_nil, List.length_cons, List.length_nil, List.replicate_succ, List.replicate_zero, List.cons_append, List.nil_append, List.append_nil, Nat.sub_self, Nat.reduceAdd, Nat.reduceSub, List.getElem?_cons_zero, List.getElem?_cons_succ, List.getElem?_nil, Option.some.injEq, reduceCtorEq, false_and, and_false, exists_false, exists_eq_left', exists_and_left, exists_and_right, exists_eq_right, D.int.injEq, D.bl.injEq, D.str.injEq, D.tup.injEq, D.ref.injEq, D.ty.injEq, List.cons.injEq, and_self, true_and, and_true, exists_eq_left, List.set_cons_zero, List.set_cons_succ, wipeD, forall_const, if_true, false_implies, true_implies, implies_true, Bool.false_eq_true, Bool.true_eq_false, eq_self_iff_true, xor_f, xor_t, Bool.not_true, Bool.not_false, decide_eq_true_eq, decide_eq_false_iff_not])
local macro_rules | `(tactic| walk_at "mp") => `(tactic| (try dsimp only); (try walk_at "mp1"))
local macro_rules | `(tactic| walk_at "cm") => `(tactic| first | exact cmul_r ⟨by decide, by decide⟩ | exact cmul_l ⟨by decide, by decide⟩ | exact cmul_r ⟨by omega, by omega⟩ | exact cmul_l ⟨by omega, by omega⟩)
def isD (l : List Int) : D := .tup (l.map D.int)
def okD (d : D) (M : Mem) : Prop := ∃ N, d.anyV N M
def isInt (d : D) : Bool := match d with
  | .int _ => true
  | _ => false
def inR (lo hi : Int) (d : D) : Bool := match d with
  | .int i => decide (lo ≤ i ∧ i ≤ hi)
  | _ => false
def tupN (n : Int) (d : D) : Bool := match d with
  | .tup xs => decide ((xs.length : Int) = n)
  | _ => false
def tagF (w : Str) (n : Int) (d : D) : Bool := match d with
  | .tup xs => decide ((xs.length : Int) = n) && (match xs with
    | .str z :: _ => decide (z = w)
    | _ => false)
  | _ => false
def intsF (lo hi : Int) (d : D) : Bool := match d with
  | .tup xs => xs.all (inR lo hi)
  | _ => false
def r_is_integer : WN := nOf (fun (d : D) ds M => ds = [d] ∧ okD d M) fun d _ r => r = .bl (isInt d)
def r_is_number : WN := nOf (fun (x : D × Int × Int) ds M => ds = [x.1, .int x.2.1, .int x.2.2] ∧ okD x.1 M) fun x _ r => r = .bl (inR x.2.1 x.2.2 x.1)
def r_is_tuple : WN := nOf (fun (x : D × Int) ds M => ds = [x.1, .int x.2] ∧ okD x.1 M) fun x _ r => r = .bl (tupN x.2 x.1)
def r_is_tagged : WN := nOf (fun (x : D × Str × Int) ds M => ds = [x.1, .str x.2.1, .int x.2.2] ∧ okD x.1 M ∧ 1 ≤ x.2.2) fun x _ r => r = .bl (tagF x.2.1 x.2.2 x.1)
def r_are_integers : WN := nOf (fun (x : D × Int × Int) ds M => ds = [x.1, .int x.2.1, .int x.2.2] ∧ okD x.1 M ∧ (∀ xs, x.1 = .tup xs → xs.length ≤ 1000000)) fun x _ r => r = .bl (intsF x.2.1 x.2.2 x.1)
def r__law_int : WN := nOf (fun (x : D × Int × Int) ds M => ds = [x.1, .int x.2.1, .int x.2.2] ∧ okD x.1 M) fun x _ r => r = .bl (inR x.2.1 x.2.2 x.1)
def r__law_ints : WN := nOf (fun (x : D × Int × Int) ds M => ds = [x.1, .int x.2.1, .int x.2.2] ∧ okD x.1 M) fun x _ r => r = .bl (intsF x.2.1 x.2.2 x.1)
def r__law_tag : WN := nOf (fun (x : D × Str × Int) ds M => ds = [x.1, .str x.2.1, .int x.2.2] ∧ okD x.1 M ∧ 1 ≤ x.2.2) fun x _ r => r = .bl (tagF x.2.1 x.2.2 x.1)
def w_is_integer : WS :=
    sRet (wAnd (wCB nIsi (aCons (wVar 0) (aCons (wC (.ty "int")) (aNil)))) (wNot (wCB nIsi (aCons (wVar 0) (aCons (wC (.ty "bool")) (aNil))))))
def w_is_number : WS :=
    sRet (wAnd (wCB r_is_integer (aCons (wVar 0) (aNil))) (wChain rLe rLe (wVar 1) (wVar 0) (wVar 2)))
def w_is_tuple : WS :=
    sRet (wAnd (wCB nIsi (aCons (wVar 0) (aCons (wC (.ty "tuple")) (aNil)))) (wOp rEq (wCB nLen (aCons (wVar 0) (aNil))) (wVar 1)))
def w_is_tagged : WS :=
    sRet (wAnd (wCB r_is_tuple (aCons (wVar 0) (aCons (wVar 2) (aNil)))) (wAnd (wCB nIsi (aCons (wOp rIx (wVar 0) (wC (.int 0))) (aCons (wC (.ty "str")) (aNil)))) (wOp rEq (wOp rIx (wVar 0) (wC (.int 0))) (wVar 1))))
def w_are_integers : WS :=
    sRet (wAnd (wCB nIsi (aCons (wVar 0) (aCons (wC (.ty "tuple")) (aNil)))) (wCB nAll (aCons (wLc (iSeq (wVar 0)) (gN 3) (wtYes) (wCB r_is_number (aCons (wVar 3) (aCons (wVar 1) (aCons (wVar 2) (aNil))))) [3]) (aNil))))
def w__law_ints : WS :=
    sSeq (sIf (wtNot (wtB (wCB nIsi (aCons (wVar 0) (aCons (wC (.ty "tuple")) (aNil)))))) (sRet (wC (.bl false))) (sNil))
    (sSeq (sFor (iSeq (wVar 0)) (gN 3) (sIf (wtNot (wtB (wCB r__law_int (aCons (wVar 3) (aCons (wVar 1) (aCons (wVar 2) (aNil))))))) (sRet (wC (.bl false))) (sNil)))
    (sRet (wC (.bl true))))
def w__law_tag : WS :=
    sRet (wAnd (wCB nIsi (aCons (wVar 0) (aCons (wC (.ty "tuple")) (aNil)))) (wAnd (wOp rEq (wCB nLen (aCons (wVar 0) (aNil))) (wVar 2)) (wAnd (wCB nIsi (aCons (wOp rIx (wVar 0) (wC (.int 0))) (aCons (wC (.ty "str")) (aNil)))) (wOp rEq (wOp rIx (wVar 0) (wC (.int 0))) (wVar 1)))))
theorem isi_int {d : D} {M : Mem} {Q : D → Mem → Prop} (h : okD d M) (q : Q (.bl (isTy "int" d)) M) : nIsi.f [d, .ty "int"] M Q := let ⟨_, h⟩ := h; isiV h (by simp) q
theorem isi_bool {d : D} {M : Mem} {Q : D → Mem → Prop} (h : okD d M) (q : Q (.bl (isTy "bool" d)) M) : nIsi.f [d, .ty "bool"] M Q := let ⟨_, h⟩ := h; isiV h (by simp) q
theorem isi_str {d : D} {M : Mem} {Q : D → Mem → Prop} (h : okD d M) (q : Q (.bl (isTy "str" d)) M) : nIsi.f [d, .ty "str"] M Q := let ⟨_, h⟩ := h; isiV h (by simp) q
theorem isi_tuple {d : D} {M : Mem} {Q : D → Mem → Prop} (h : okD d M) (q : Q (.bl (isTy "tuple" d)) M) : nIsi.f [d, .ty "tuple"] M Q := let ⟨_, h⟩ := h; isiV h (by simp) q
theorem isi_list {d : D} {M : Mem} {Q : D → Mem → Prop} (h : okD d M) (q : Q (.bl (isTy "list" d)) M) : nIsi.f [d, .ty "list"] M Q := let ⟨_, h⟩ := h; isiV h (by simp) q
theorem isInt_ty (d : D) : isInt d = (isTy "int" d && !isTy "bool" d) := by cases d <;> rfl
theorem okD_in {xs : List D} {M : Mem} (h : okD (.tup xs) M) : ∀ x ∈ xs, okD x M := fun x hx => let ⟨N, _, h2⟩ := h; ⟨N, anyVs_iff.mp h2 x hx⟩
theorem okD_len {xs : List D} {M : Mem} {N : Nat} (h : (D.tup xs).anyV N M) : xs.length ≤ N := h.1
theorem okD_int (i : Int) (M : Mem) : okD (.int i) M := ⟨i.natAbs, Nat.le_refl _⟩
theorem okD_str (z : Str) (M : Mem) : okD (.str z) M := ⟨z.length, Nat.le_refl _⟩
section
variable {d : D} {M : Mem} {Q : D → Mem → Prop}
theorem integer_at (ok : okD d M) (q : Q (.bl (isInt d)) M) : r_is_integer.f [d] M Q := ⟨d, ⟨rfl, ok⟩, fun r h => by rw [h]; exact q⟩
theorem number_at {lo hi : Int} (ok : okD d M) (q : Q (.bl (inR lo hi d)) M) : r_is_number.f [d, .int lo, .int hi] M Q := ⟨(d, lo, hi), ⟨rfl, ok⟩, fun r h => by rw [h]; exact q⟩
theorem tupN_at {n : Int} (ok : okD d M) (q : Q (.bl (tupN n d)) M) : r_is_tuple.f [d, .int n] M Q := ⟨(d, n), ⟨rfl, ok⟩, fun r h => by rw [h]; exact q⟩
theorem tag_at {w : Str} {n : Int} (ok : okD d M) (hn : 1 ≤ n) (q : Q (.bl (tagF w n d)) M) : r_is_tagged.f [d, .str w, .int n] M Q := ⟨(d, w, n), ⟨rfl, ok, hn⟩, fun r h => by rw [h]; exact q⟩
theorem ints_at {lo hi : Int} (ok : okD d M) (hl : ∀ xs, d = .tup xs → xs.length ≤ 1000000) (q : Q (.bl (intsF lo hi d)) M) : r_are_integers.f [d, .int lo, .int hi] M Q := ⟨(d, lo, hi), ⟨rfl, ok, hl⟩, fun r h => by rw [h]; exact q⟩
theorem lint_at {lo hi : Int} (ok : okD d M) (q : Q (.bl (inR lo hi d)) M) : r__law_int.f [d, .int lo, .int hi] M Q := ⟨(d, lo, hi), ⟨rfl, ok⟩, fun r h => by rw [h]; exact q⟩
theorem lints_at {lo hi : Int} (ok : okD d M) (q : Q (.bl (intsF lo hi d)) M) : r__law_ints.f [d, .int lo, .int hi] M Q := ⟨(d, lo, hi), ⟨rfl, ok⟩, fun r h => by rw [h]; exact q⟩
theorem ltag_at {w : Str} {n : Int} (ok : okD d M) (hn : 1 ≤ n) (q : Q (.bl (tagF w n d)) M) : r__law_tag.f [d, .str w, .int n] M Q := ⟨(d, w, n), ⟨rfl, ok, hn⟩, fun r h => by rw [h]; exact q⟩
end
theorem law_is_integer : FnLaw 1 1 w_is_integer r_is_integer := law_of fun d ds M cn ⟨e, ok⟩ => by
  subst e
  refine ⟨rfl, ?_⟩
  intro R mkR
  have mkR : ∀ b, b = isInt d → R (.bl b) M := fun b e => mkR _ _ (by rw [e]) Sub.refl
  have ei := isInt_ty d
  unfold w_is_integer rtE
  walk_at "mp"
  refine isi_int ok ⟨_, rfl, fun z => isi_bool ok ⟨_, rfl, mkR _ ?_⟩, fun z => mkR _ ?_⟩
  · rw [ei, z]; rfl
  · rw [ei, z]; rfl
theorem law_is_number : FnLaw 3 3 w_is_number r_is_number := law_of fun ⟨d, lo, hi⟩ ds M cn ⟨e, ok⟩ => by
  dsimp only at e ok
  subst e
  refine ⟨rfl, ?_⟩
  intro R mkR
  have mkR : ∀ b, b = inR lo hi d → R (.bl b) M := fun b e => mkR _ _ (by rw [e]) Sub.refl
  unfold w_is_number rtE
  walk_at "mp"
  refine integer_at ok ⟨_, rfl, fun z => ?_, fun z => mkR _ ?_⟩
  · cases d with
    | int i =>
      walk_at "mp"
      refine ⟨fun a => mkR _ ?_, fun a => mkR _ ?_⟩
      · show decide (i ≤ hi) = decide (lo ≤ i ∧ i ≤ hi)
        simp [a]
      · show false = decide (lo ≤ i ∧ i ≤ hi)
        simp [a]
    | _ => cases z
  · cases d with
    | int i => cases z
    | _ => rfl
theorem law_is_tuple : FnLaw 2 2 w_is_tuple r_is_tuple := law_of fun ⟨d, n⟩ ds M cn ⟨e, ok⟩ => by
  dsimp only at e ok
  subst e
  refine ⟨rfl, ?_⟩
  intro R mkR
  have mkR : ∀ b, b = tupN n d → R (.bl b) M := fun b e => mkR _ _ (by rw [e]) Sub.refl
  unfold w_is_tuple rtE
  walk_at "mp"
  refine isi_tuple ok ⟨_, rfl, fun z => ?_, fun z => mkR _ ?_⟩
  · cases d with
    | tup xs =>
      walk_at "mp"
      exact mkR _ rfl
    | _ => cases z
  · cases d with
    | tup i => cases z
    | _ => rfl
def headS (w : Str) : List D → Bool
  | .str z :: _ => decide (z = w)
  | _ => false
theorem tagF_tup (w : Str) (n : Int) (xs : List D) : tagF w n (.tup xs) = (decide ((xs.length : Int) = n) && headS w xs) := by
  unfold tagF headS
  rfl
theorem kind_ok {d : D} {M : Mem} {Q : D → Mem → Prop} (ok : okD d M) (q : ∀ k : Int, (k = 2 ↔ isInt d = true) → Q (.int k) M) : r__law_kind.f [d] M Q := by
  obtain ⟨N, h⟩ := ok
  rw [kind_at]
  cases d with
  | non => exact ⟨⟨_, rfl, by simp⟩, q _ (by simp [kindD, tyName, kindN, isInt])⟩
  | bl b => exact ⟨⟨_, rfl, by simp⟩, q _ (by simp [kindD, tyName, kindN, isInt])⟩
  | int i => exact ⟨⟨_, rfl, by simp⟩, q _ (by simp [kindD, tyName, kindN, isInt])⟩
  | str z => exact ⟨⟨_, rfl, by simp⟩, q _ (by simp [kindD, tyName, kindN, isInt])⟩
  | tup xs => exact ⟨⟨_, rfl, by simp⟩, q _ (by simp [kindD, tyName, kindN, isInt])⟩
  | ref a =>
    obtain ⟨xs, e⟩ := h
    have ty : tyName (.ref a) M = some "list" := by simp [tyName, e]
    exact ⟨⟨_, ty, by simp⟩, q _ (by simp [kindD, ty, kindN, isInt])⟩
  | ty n => exact h.elim
  | fl xs => exact h.elim
theorem law_is_tagged : FnLaw 3 3 w_is_tagged r_is_tagged := law_of fun ⟨d, w, n⟩ ds M cn ⟨e, ok, hn⟩ => by
  dsimp only at e ok hn
  subst e
  refine ⟨rfl, ?_⟩
  intro R mkR
  have mkR : ∀ b, b = tagF w n d → R (.bl b) M := fun b e => mkR _ _ (by rw [e]) Sub.refl
  unfold w_is_tagged rtE
  walk_at "mp"
  refine tupN_at ok ⟨_, rfl, fun z => ?_, fun z => mkR _ ?_⟩
  · cases d with
    | tup xs =>
      have hl := of_decide_eq_true (show decide ((xs.length : Int) = n) = true from z)
      cases xs with
      | nil => simp at hl; omega
      | cons x xs =>
        have okx := okD_in ok x List.mem_cons_self
        walk_at "mp"
        refine isi_str okx ⟨_, rfl, fun y => ?_, fun y => mkR _ ?_⟩
        · cases x with
          | str s =>
            walk_at "mp"
            refine mkR _ ?_
            rw [tagF_tup, decide_eq_true hl]; rfl
          | _ => cases y
        · rw [tagF_tup, decide_eq_true hl]
          cases x with
          | str s => cases y
          | _ => rfl
    | _ => cases z
  · cases d with
    | tup i =>
      have : decide ((i.length : Int) = n) = false := z
      rw [tagF_tup, this]; rfl
    | _ => rfl
theorem law__law_tag : FnLaw 3 3 w__law_tag r__law_tag := law_of fun ⟨d, w, n⟩ ds M cn ⟨e, ok, hn⟩ => by
  dsimp only at e ok hn
  subst e
  refine ⟨rfl, ?_⟩
  intro R mkR
  have mkR : ∀ b, b = tagF w n d → R (.bl b) M := fun b e => mkR _ _ (by rw [e]) Sub.refl
  unfold w__law_tag rtE
  walk_at "mp"
  refine isi_tuple ok ⟨_, rfl, fun z => ?_, fun z => mkR _ ?_⟩
  · cases d with
    | tup xs =>
      walk_at "mp"
      refine ⟨fun hl => ?_, fun hl => mkR _ (by rw [tagF_tup, decide_eq_false hl]; rfl)⟩
      cases xs with
      | nil => simp at hl; omega
      | cons x xs =>
        have okx := okD_in ok x List.mem_cons_self
        walk_at "mp"
        refine isi_str okx ⟨_, rfl, fun y => ?_, fun y => mkR _ ?_⟩
        · cases x with
          | str s =>
            walk_at "mp"
            refine mkR _ ?_
            rw [tagF_tup, decide_eq_true hl]; rfl
          | _ => cases y
        · rw [tagF_tup, decide_eq_true hl]
          cases x with
          | str s => cases y
          | _ => rfl
    | _ => cases z
  · cases d with
    | tup i => cases z
    | _ => rfl
theorem law__law_int : FnLaw 3 3 w__law_int r__law_int := law_of fun ⟨d, lo, hi⟩ ds M cn ⟨e, ok⟩ => by
  dsimp only at e ok
  subst e
  refine ⟨rfl, ?_⟩
  intro R mkR
  have mkR : ∀ b, b = inR lo hi d → R (.bl b) M := fun b e => mkR _ _ (by rw [e]) Sub.refl
  unfold w__law_int rtE
  walk_at "mp"
  refine kind_ok ok fun k hk => ?_
  walk_at "mp"
  refine ⟨fun z => ?_, fun z => mkR _ ?_⟩
  · have hi' := hk.mp z
    cases d with
    | int i =>
      walk_at "mp"
      refine ⟨fun a => mkR _ ?_, fun a => mkR _ ?_⟩
      · show decide (i ≤ hi) = decide (lo ≤ i ∧ i ≤ hi)
        simp [a]
      · show false = decide (lo ≤ i ∧ i ≤ hi)
        simp [a]
    | _ => cases hi'
  · have hi' : ¬ isInt d = true := fun y => z (hk.mpr y)
    cases d with
    | int i => exact absurd rfl hi'
    | _ => rfl
theorem law_are_integers : FnLaw 4 3 w_are_integers r_are_integers := law_of fun ⟨d, lo, hi⟩ ds M cn ⟨e, ok, hl⟩ => by
  dsimp only at e ok hl
  subst e
  refine ⟨rfl, ?_⟩
  intro R mkR
  have mkR : ∀ b M', b = intsF lo hi d → Sub M M' → R (.bl b) M' := fun b M' e s => mkR _ _ (by rw [e]) s
  have sz := sizeLine_eq
  unfold w_are_integers rtE
  walk_at "mp"
  refine isi_tuple ok ⟨_, rfl, fun z => ?_, fun z => mkR _ _ ?_ Sub.refl⟩
  · cases d with
    | tup xs =>
      have hl := hl xs rfl
      rw [iseq_tup]
      have e : xs = xs.map id := by simp
      rw [show xs = xs.map id from e]
      refine lc_enc id (fun x => D.bl (inR lo hi x)) (fun M' => M' = M) xs (fun J mk x hx M' e => ?_) (by omega) (fun M' e => ?_) _ rfl
      · subst e
        refine ⟨trivial, ?_⟩
        walk_at "mp"
        exact number_at (okD_in ok x hx) ⟨rfl, mk _ rfl⟩
      · subst e
        refine ⟨trivial, fun q hq => ?_⟩
        refine ⟨_, rfl, xs.map (inR lo hi), by rw [mupd_same, List.map_map]; rfl, mkR _ _ ?_ (Sub.new hq)⟩
        rw [List.all_map]; rfl
    | _ => cases z
  · cases d with
    | tup i => cases z
    | _ => rfl
theorem law__law_ints : FnLaw 4 3 w__law_ints r__law_ints := law_of fun ⟨d, lo, hi⟩ ds M cn ⟨e, ok⟩ => by
  dsimp only at e ok
  subst e
  refine ⟨rfl, ?_⟩
  intro R mkR
  have mkR : ∀ b M', b = intsF lo hi d → Sub M M' → R (.bl b) M' := fun b M' e s => mkR _ _ (by rw [e]) s
  have sz := sizeLine_eq
  unfold w__law_ints rtE
  refine seq_cut (fun ρ M1 => ∃ xs, d = .tup xs ∧ ρ = [some d, some (.int lo), some (.int hi), none] ∧ M1 = M) (fun I mk => ?_) ?_
  · walk_at "mp"
    refine isi_tuple ok ⟨_, rfl, fun z => mkR _ _ ?_ Sub.refl, fun z => ?_⟩
    · cases d with
      | tup xs => cases z
      | _ => rfl
    · cases d with
      | tup xs => exact mk _ _ ⟨xs, rfl, rfl, rfl⟩
      | _ => cases z
  rintro _ M1 ⟨xs, rfl, rfl, rfl⟩
  refine seq_cut (fun ρ M2 => M2 = M1 ∧ ∀ x ∈ xs, inR lo hi x = true) (fun I mk => ?_) ?_
  · walk_at "mp"
    have e : xs = xs.map id := by simp
    rw [show loopF _ _ _ _ xs _ _ = loopF _ _ _ _ (xs.map id) _ _ by rw [← e]]
    refine loop_enc id xs (fun pre ρ M2 => ∃ x3, ρ = [some (.tup xs), some (.int lo), some (.int hi), x3] ∧ M2 = M1 ∧ ∀ x ∈ pre, inR lo hi x = true) ?_ ?_ _ _ ⟨_, rfl, rfl, fun x hx => by cases hx⟩
    · rintro J mkJ pre x post ρ M2 e ⟨x3, rfl, rfl, h⟩
      have hx : x ∈ xs := by rw [e]; simp
      refine ⟨trivial, ?_⟩
      walk_at "mp"
      refine lint_at (okD_in ok x hx) ⟨_, rfl, fun z => mkR _ _ ?_ Sub.refl, fun z => mkJ _ _ _ ⟨_, rfl, rfl, fun y hy => ?_⟩⟩
      · have : xs.all (inR lo hi) = false := List.all_eq_false.mpr ⟨x, hx, by simpa using z⟩
        exact this.symm
      · rcases List.mem_append.mp hy with hy | hy
        · exact h y hy
        · rw [List.mem_singleton.mp hy]; simpa using z
    · rintro ρ M2 ⟨x3, rfl, rfl, h⟩
      exact ⟨trivial, mk _ _ ⟨rfl, h⟩⟩
  rintro ρ M2 ⟨rfl, h⟩
  walk_at "mp"
  refine mkR _ _ ?_ Sub.refl
  exact (List.all_eq_true.mpr h).symm
theorem inR_iff {lo hi : Int} {d : D} : inR lo hi d = true ↔ ∃ i, d = .int i ∧ lo ≤ i ∧ i ≤ hi := by
  cases d with
  | int i => simp [inR]
  | _ => simp [inR]
theorem isInt_iff {d : D} : isInt d = true ↔ ∃ i, d = .int i := by
  cases d with
  | int i => simp [isInt]
  | _ => simp [isInt]
theorem all_int : ∀ {xs : List D}, xs.all isInt = true → ∃ l : List Int, xs = l.map D.int
  | [], _ => ⟨[], rfl⟩
  | x :: xs, h => by
    rw [List.all_cons, Bool.and_eq_true] at h
    obtain ⟨l, rfl⟩ := all_int h.2
    obtain ⟨i, rfl⟩ := isInt_iff.mp h.1
    exact ⟨i :: l, rfl⟩
theorem all_inR {lo hi : Int} : ∀ {xs : List D}, xs.all (inR lo hi) = true → ∃ l : List Int, xs = l.map D.int ∧ ∀ i ∈ l, lo ≤ i ∧ i ≤ hi
  | [], _ => ⟨[], rfl, fun b hb => by cases hb⟩
  | x :: xs, h => by
    rw [List.all_cons, Bool.and_eq_true] at h
    obtain ⟨l, rfl, hl⟩ := all_inR h.2
    obtain ⟨i, rfl, h1⟩ := inR_iff.mp h.1
    exact ⟨i :: l, rfl, fun c hc => by
      rcases List.mem_cons.mp hc with rfl | hc
      · exact h1
      · exact hl c hc⟩
def unI (d : D) : Int := match d with
  | .int i => i
  | _ => 0
theorem unI_map (l : List Int) : (l.map D.int).map unI = l := by
  rw [List.map_map]
  exact List.map_id' l
theorem tag2_iff {w : Str} {d : D} : tagF w 2 d = true ↔ ∃ y, d = .tup [.str w, y] := by
  constructor
  · intro h
    cases d with
    | tup xs =>
      rw [tagF_tup, Bool.and_eq_true] at h
      match xs, h with
      | [x, y], h =>
        cases x with
        | str z => exact ⟨y, by rw [of_decide_eq_true (show decide (z = w) = true from h.2)]⟩
        | _ => cases h.2
      | [], h => exact absurd h.1 (by simp)
      | [_], h => exact absurd h.1 (by simp)
      | _ :: _ :: _ :: _, h => exact absurd (of_decide_eq_true h.1) (by simp; omega)
    | _ => cases h
  · rintro ⟨y, rfl⟩
    rw [tagF_tup, Bool.and_eq_true]
    exact ⟨by simp, decide_eq_true rfl⟩
theorem intsF_tup {lo hi : Int} {y : D} (g : intsF lo hi y = true) : ∃ l : List Int, y = isD l ∧ ∀ i ∈ l, lo ≤ i ∧ i ≤ hi := by
  cases y with
  | tup xs =>
    obtain ⟨l, rfl, h⟩ := all_inR g
    exact ⟨l, rfl, h⟩
  | _ => cases g
theorem isD_inj (l k : List Int) (h : isD l = isD k) : l = k := by
  simp only [isD, D.tup.injEq] at h
  exact map_inj D.int (fun a b e => by injection e) l k h
theorem is_any {l : List Int} {N : Nat} {M : Mem} (hl : l.length ≤ N) (h : ∀ x ∈ l, -(N : Int) ≤ x ∧ x ≤ N) : (isD l).anyV N M := by
  refine ⟨by rw [List.length_map]; exact hl, anyVs_iff.mpr fun x hx => ?_⟩
  obtain ⟨b, hb, rfl⟩ := List.mem_map.mp hx
  obtain ⟨w0, w1⟩ := h b hb
  show b.natAbs ≤ N
  omega
theorem is_tdp (l : List Int) : (isD l).tdp ≤ 1 := by
  show D.tdps (l.map D.int) + 1 ≤ 1
  have : D.tdps (l.map D.int) ≤ 0 := tdps_le.mpr fun x hx => by
    obtain ⟨b, hb, rfl⟩ := List.mem_map.mp hx
    exact Nat.le_refl _
  omega
end KA

/-! plans: what they are as data, promises of the common defs about them -/
namespace PL
open PySem PySem.Spec PyProof.Rows L2 MP
abbrev PR := Int × Int
abbrev isD := KA.isD
abbrev r_is_integer : WN := KA.r_is_integer
abbrev r_is_number : WN := KA.r_is_number
abbrev r_is_tuple : WN := KA.r_is_tuple
abbrev r_are_integers : WN := KA.r_are_integers
abbrev r__law_int : WN := KA.r__law_int
abbrev r__law_ints : WN := KA.r__law_ints
/-- bars: the clock, the sign by its number, the number -/
abbrev Bar := Int × Nat × Int
def sg : Nat → Str
  | 0 => Str.ofString "<"
  | 1 => Str.ofString "<="
  | 2 => Str.ofString ">"
  | _ => Str.ofString ">="
def sgs (m : Nat) : D := .tup ((List.range m).map fun k => .str (sg k))
def barD (b : Bar) : D := .tup [.int b.1, .str (sg b.2.1), .int b.2.2]
def barsD (bs : List Bar) : D := .tup (bs.map barD)
structure Edge where
  s : Int
  d : Int
  bars : List Bar
  rs : List Int
  g : Int
def edgeD (e : Edge) : D := .tup [.int e.s, .int e.d, barsD e.bars, isD e.rs, .int e.g]
structure Plan where
  c : Int
  bounds : List (List Bar)
  edges : List Edge
  ends : List Int
def boundsD (bs : List (List Bar)) : D := .tup (bs.map barsD)
def edgesD (es : List Edge) : D := .tup (es.map edgeD)
def planD (p : Plan) : D := .tup [.int p.c, boundsD p.bounds, edgesD p.edges, isD p.ends]
/-! ### what is in order -/
def okB (c : Int) (m : Nat) (b : Bar) : Prop := (0 ≤ b.1 ∧ b.1 ≤ c - 1) ∧ b.2.1 < m ∧ 0 ≤ b.2.2 ∧ b.2.2 ≤ 3
def okBs (c : Int) (m : Nat) (bs : List Bar) : Prop := ∀ b ∈ bs, okB c m b
def okNs (lo hi : Int) (l : List Int) : Prop := ∀ i ∈ l, lo ≤ i ∧ i ≤ hi
structure okE (c n : Int) (e : Edge) : Prop where
  s : 0 ≤ e.s ∧ e.s ≤ n - 1
  d : 0 ≤ e.d ∧ e.d ≤ 2
  bars : okBs c 4 e.bars
  rs : okNs 0 (c - 1) e.rs
  g : 0 ≤ e.g ∧ e.g ≤ n - 1
structure okP (p : Plan) : Prop where
  c : 1 ≤ p.c ∧ p.c ≤ 2
  n : 1 ≤ p.bounds.length ∧ p.bounds.length ≤ 4
  bounds : ∀ bs ∈ p.bounds, okBs p.c 2 bs
  m : p.edges.length ≤ 8
  edges : ∀ e ∈ p.edges, okE p.c p.bounds.length e
  ends : okNs 0 (p.bounds.length - 1) p.ends
/-- ascending data -/
def upI (l : List Int) : Prop := upB (l.map D.int) = true
def upBs (bs : List Bar) : Prop := upB (bs.map barD) = true
def upE (es : List Edge) : Prop := upB (es.map edgeD) = true
structure upP (p : Plan) : Prop where
  bounds : ∀ bs ∈ p.bounds, upBs bs
  edges : upE p.edges
  bars : ∀ e ∈ p.edges, upBs e.bars
  rs : ∀ e ∈ p.edges, upI e.rs
  ends : upI p.ends
/-! ### tests of any data -/
def IsBar (c : Int) (m : Nat) (d : D) : Prop := ∃ b : Bar, d = barD b ∧ okB c m b
def IsBars (c : Int) (m : Nat) (d : D) : Prop := ∃ bs : List Bar, d = barsD bs ∧ okBs c m bs ∧ upBs bs
def IsNums (lo hi : Int) (d : D) : Prop := ∃ l : List Int, d = isD l ∧ okNs lo hi l ∧ upI l
def IsEdge (c n : Int) (d : D) : Prop := ∃ e : Edge, d = edgeD e ∧ okE c n e ∧ upBs e.bars ∧ upI e.rs
def IsPlan (d : D) : Prop := ∃ p : Plan, d = planD p ∧ okP p ∧ upP p
/-- a def that tells whether a value is so -/
def nIs {α : Type} (C : α → List D → Mem → Prop) (P : α → Prop) : WN := nOf C fun x _ d => ∃ b, d = .bl b ∧ (b = true ↔ P x)
def btwF (lo hi : Int) : D → Bool
  | .tup xs => decide (lo ≤ (xs.length : Nat) ∧ ((xs.length : Nat) : Int) ≤ hi)
  | _ => false
def r_is_between : WN := nOf (fun (x : D × Int × Int) ds M => ds = [x.1, .int x.2.1, .int x.2.2] ∧ KA.okD x.1 M) fun x _ d => d = .bl (btwF x.2.1 x.2.2 x.1)
def ascA (xs : List D) : Prop := (∃ l : List Int, xs = l.map D.int) ∨ ∀ x ∈ xs, ∀ y ∈ xs, okLt x y
def r_is_ascending : WN := nOf (fun (xs : List D) ds _ => ds = [.tup xs] ∧ xs.length ≤ 1000000 ∧ ascA xs) fun xs _ d => d = .bl (upB xs)
def r__law_up : WN := nOf (fun (xs : List D) ds _ => ds = [.tup xs] ∧ xs.length ≤ 1000000 ∧ ascA xs) fun xs _ d => d = .bl (upB xs)
def anyA {α : Type} (f : α → List D) (x : D × α) (ds : List D) (M : Mem) : Prop := ds = f x.2 ++ [x.1] ∧ x.1.anyV 1000000 M
def r_are_numbers : WN := nIs (fun (x : D × Int × Int) ds M => ds = [x.1, .int x.2.1, .int x.2.2] ∧ x.1.anyV 1000000 M) fun x => IsNums x.2.1 x.2.2 x.1
def r__law_set : WN := nIs (fun (x : D × Int × Int) ds M => ds = [x.1, .int x.2.1, .int x.2.2] ∧ x.1.anyV 1000000 M) fun x => IsNums x.2.1 x.2.2 x.1
def barA (x : D × Int × Nat) (ds : List D) (M : Mem) : Prop := ds = [.int x.2.1, sgs x.2.2, x.1] ∧ x.1.anyV 1000000 M ∧ x.2.2 ≤ 4
def r_is_bar : WN := nIs barA fun x => IsBar x.2.1 x.2.2 x.1
def r_are_bars : WN := nIs barA fun x => IsBars x.2.1 x.2.2 x.1
def r__law_is_bars : WN := nIs barA fun x => IsBars x.2.1 x.2.2 x.1
def r_is_edge : WN := nIs (fun (x : D × Int × Int) ds M => ds = [.int x.2.1, .int x.2.2, x.1] ∧ x.1.anyV 1000000 M) fun x => IsEdge x.2.1 x.2.2 x.1
def r_is_plan : WN := nIs (fun (d : D) ds M => ds = [d] ∧ d.anyV 1000000 M) IsPlan
def r__law_is_plan : WN := nIs (fun (d : D) ds M => ds = [d] ∧ d.anyV 1000000 M) IsPlan
def r_is_single : WN := nIs (fun (d : D) ds M => ds = [d] ∧ d.anyV 1000000 M) fun d => IsPlan d ∧ ∃ xs, d = .tup (.int 1 :: xs)
/-! ### drawn plans -/
def r__law_bars : WN := nDr 11 (fun ds _ => ∃ (p : Addr) (c : Nat) (m : Nat) (top lean : Int), ds = [.ref p, .int ((c : Nat) : Int), sgs m, .int top, .int lean] ∧ (1 ≤ c ∧ c ≤ 2) ∧ (m = 2 ∨ m = 4) ∧ (0 ≤ top ∧ top ≤ 3) ∧ 1 ≤ lean ∧ lean ≤ 100)
  fun ds _ d => ∃ (p : Addr) (c : Nat) (m : Nat) (top lean : Int) (bs : List Bar), ds = [.ref p, .int ((c : Nat) : Int), sgs m, .int top, .int lean] ∧ d = barsD bs ∧ bs.length ≤ 3 ∧ okBs c m bs ∧ ∀ b ∈ bs, b.2.2 ≤ top
/-- more of a drawn plan: its bars are few, its first state's bars hold at the beginning -/
structure drP (top : Int) (p : Plan) : Prop where
  ok : okP p
  few : (∀ bs ∈ p.bounds, bs.length ≤ 3) ∧ ∀ e ∈ p.edges, e.bars.length ≤ 3 ∧ e.rs.length ≤ 2
  ends : p.ends.length ≤ 4
  top : (∀ bs ∈ p.bounds, ∀ b ∈ bs, b.2.2 ≤ top) ∧ ∀ e ∈ p.edges, ∀ b ∈ e.bars, b.2.2 ≤ top
  first : ∀ bs, p.bounds.head? = some bs → ∀ b ∈ bs, ¬ (b.2.1 = 0 ∧ b.2.2 = 0)
def r__law_plan : WN := nDr 210 (fun ds _ => ∃ (p : Addr) (c : Nat) (n top : Int), ds = [.ref p, .int ((c : Nat) : Int), .int n, .int top] ∧ (1 ≤ c ∧ c ≤ 2) ∧ (1 ≤ n ∧ n ≤ 4) ∧ 0 ≤ top ∧ top ≤ 3)
  fun ds _ d => ∃ (p : Addr) (c : Nat) (n top : Int) (pl : Plan), ds = [.ref p, .int ((c : Nat) : Int), .int n, .int top] ∧ d = planD pl ∧ pl.c = c ∧ drP top pl
end PL

namespace PL
open PySem PySem.Spec PyProof.Rows L2 MP
/-! readings of the common defs about plans, as gen.py printed them -/
def w_is_between : WS :=
    sRet (wAnd (wCB nIsi (aCons (wVar 0) (aCons (wC (.ty "tuple")) (aNil)))) (wChain rLe rLe (wVar 1) (wCB nLen (aCons (wVar 0) (aNil))) (wVar 2)))
def w_is_ascending : WS :=
    sRet (wCB nAll (aCons (wLc (iR2 (aCons (wC (.int 1)) (aCons (wCB nLen (aCons (wVar 0) (aNil))) (aNil)))) (gN 1) (wtYes) (wOp rLt (wOp rIx (wVar 0) (wOp rSub (wVar 1) (wC (.int 1)))) (wOp rIx (wVar 0) (wVar 1))) [1]) (aNil)))
def w_are_numbers : WS :=
    sRet (wAnd (wCB r_are_integers (aCons (wVar 0) (aCons (wVar 1) (aCons (wVar 2) (aNil))))) (wCB r_is_ascending (aCons (wVar 0) (aNil))))
def w_is_bar : WS :=
    sSeq (sIf (wtOr (wtNot (wtB (wCB r_is_tuple (aCons (wVar 2) (aCons (wC (.int 3)) (aNil)))))) (wtOr (wtNot (wtB (wCB r_is_number (aCons (wOp rIx (wVar 2) (wC (.int 0))) (aCons (wC (.int 0)) (aCons (wOp rSub (wVar 0) (wC (.int 1))) (aNil))))))) (wtNot (wtB (wCB nIsi (aCons (wOp rIx (wVar 2) (wC (.int 1))) (aCons (wC (.ty "str")) (aNil)))))))) (sRet (wC (.bl false))) (sNil))
    (sRet (wAnd (wOp rIn (wOp rIx (wVar 2) (wC (.int 1))) (wVar 1)) (wCB r_is_number (aCons (wOp rIx (wVar 2) (wC (.int 2))) (aCons (wC (.int 0)) (aCons (wC (.int 3)) (aNil)))))))
def w_are_bars : WS :=
    sSeq (sIf (wtOr (wtNot (wtB (wCB nIsi (aCons (wVar 2) (aCons (wC (.ty "tuple")) (aNil)))))) (wtNot (wtB (wCB nAll (aCons (wLc (iSeq (wVar 2)) (gN 3) (wtYes) (wCB r_is_bar (aCons (wVar 0) (aCons (wVar 1) (aCons (wVar 3) (aNil))))) [3]) (aNil)))))) (sRet (wC (.bl false))) (sNil))
    (sRet (wCB r_is_ascending (aCons (wVar 2) (aNil))))
def w_is_edge : WS :=
    sSeq (sIf (wtOr (wtNot (wtB (wCB r_is_tuple (aCons (wVar 2) (aCons (wC (.int 5)) (aNil)))))) (wtNot (wtB (wCB nAll (aCons (wLc (iSeq (wTup (aCons (wC (.int 0)) (aCons (wC (.int 4)) (aNil))))) (gN 3) (wtYes) (wCB r_is_number (aCons (wOp rIx (wVar 2) (wVar 3)) (aCons (wC (.int 0)) (aCons (wOp rSub (wVar 1) (wC (.int 1))) (aNil))))) [3]) (aNil)))))) (sRet (wC (.bl false))) (sNil))
    (sSeq (sIf (wtOr (wtNot (wtB (wCB r_is_number (aCons (wOp rIx (wVar 2) (wC (.int 1))) (aCons (wC (.int 0)) (aCons (wOp rSub (wC (.int 3)) (wC (.int 1))) (aNil))))))) (wtNot (wtB (wCB r_are_bars (aCons (wVar 0) (aCons (wC (.tup [.str "<", .str "<=", .str ">", .str ">="])) (aCons (wOp rIx (wVar 2) (wC (.int 2))) (aNil)))))))) (sRet (wC (.bl false))) (sNil))
    (sRet (wCB r_are_numbers (aCons (wOp rIx (wVar 2) (wC (.int 3))) (aCons (wC (.int 0)) (aCons (wOp rSub (wVar 0) (wC (.int 1))) (aNil)))))))
def w_is_plan : WS :=
    sSeq (sIf (wtOr (wtNot (wtB (wCB r_is_tuple (aCons (wVar 0) (aCons (wC (.int 4)) (aNil)))))) (wtNot (wtB (wCB r_is_number (aCons (wOp rIx (wVar 0) (wC (.int 0))) (aCons (wC (.int 1)) (aCons (wC (.int 2)) (aNil)))))))) (sRet (wC (.bl false))) (sNil))
    (sSeq (sAsg (wVar 0) (gT (gsCons (gN 1) (gsCons (gN 2) (gsCons (gN 3) (gsCons (gN 4) (gsNil)))))))
    (sSeq (sIf (wtOr (wtNot (wtB (wCB r_is_between (aCons (wVar 2) (aCons (wC (.int 1)) (aCons (wC (.int 4)) (aNil))))))) (wtNot (wtB (wCB nAll (aCons (wLc (iSeq (wVar 2)) (gN 6) (wtYes) (wCB r_are_bars (aCons (wVar 1) (aCons (wC (.tup [.str "<", .str "<="])) (aCons (wVar 6) (aNil))))) [6]) (aNil)))))) (sRet (wC (.bl false))) (sNil))
    (sSeq (sAsg (wCB nLen (aCons (wVar 2) (aNil))) (gN 5))
    (sSeq (sIf (wtOr (wtNot (wtB (wCB r_is_between (aCons (wVar 3) (aCons (wC (.int 0)) (aCons (wC (.int 8)) (aNil))))))) (wtNot (wtB (wCB nAll (aCons (wLc (iSeq (wVar 3)) (gN 7) (wtYes) (wCB r_is_edge (aCons (wVar 1) (aCons (wVar 5) (aCons (wVar 7) (aNil))))) [7]) (aNil)))))) (sRet (wC (.bl false))) (sNil))
    (sRet (wAnd (wCB r_is_ascending (aCons (wVar 3) (aNil))) (wCB r_are_numbers (aCons (wVar 4) (aCons (wC (.int 0)) (aCons (wOp rSub (wVar 5) (wC (.int 1))) (aNil)))))))))))
def w_is_single : WS :=
    sRet (wAnd (wCB r_is_plan (aCons (wVar 0) (aNil))) (wOp rEq (wOp rIx (wVar 0) (wC (.int 0))) (wC (.int 1))))
def w__law_up : WS :=
    sSeq (sFor (iR2 (aCons (wC (.int 1)) (aCons (wCB nLen (aCons (wVar 0) (aNil))) (aNil)))) (gN 1) (sIf (wtNot (wtB (wOp rLt (wOp rIx (wVar 0) (wOp rSub (wVar 1) (wC (.int 1)))) (wOp rIx (wVar 0) (wVar 1))))) (sRet (wC (.bl false))) (sNil)))
    (sRet (wC (.bl true)))
def w__law_set : WS :=
    sRet (wAnd (wCB r__law_ints (aCons (wVar 0) (aCons (wVar 1) (aCons (wVar 2) (aNil))))) (wCB r__law_up (aCons (wVar 0) (aNil))))
def w__law_bars : WS :=
    sSeq (sAsg (wLst (aNil)) (gN 5))
    (sSeq (sFor (iR1 (aCons (wVar 1) (aNil))) (gN 6) (sIf (wtB (wOp rEq (wCB r__law_draw (aCons (wVar 0) (aCons (wVar 4) (aNil)))) (wC (.int 0)))) (sDrop (wBM "list" mAppend (wVar 5) (aCons (wTup (aCons (wVar 6) (aCons (wOp rIx (wVar 2) (wCB r__law_draw (aCons (wVar 0) (aCons (wCB nLen (aCons (wVar 2) (aNil))) (aNil))))) (aCons (wCB r__law_draw (aCons (wVar 0) (aCons (wOp rAdd (wVar 3) (wC (.int 1))) (aNil)))) (aNil))))) (aNil)))) (sNil)))
    (sSeq (sIf (wtB (wOp rEq (wCB r__law_draw (aCons (wVar 0) (aCons (wC (.int 9)) (aNil)))) (wC (.int 0)))) (sSeq (sAsg (wTup (aCons (wCB r__law_draw (aCons (wVar 0) (aCons (wVar 1) (aNil)))) (aCons (wOp rIx (wVar 2) (wCB r__law_draw (aCons (wVar 0) (aCons (wCB nLen (aCons (wVar 2) (aNil))) (aNil))))) (aCons (wCB r__law_draw (aCons (wVar 0) (aCons (wOp rAdd (wVar 3) (wC (.int 1))) (aNil)))) (aNil))))) (gN 7))
    (sIf (wtB (wOp rNotIn (wVar 7) (wVar 5))) (sDrop (wBM "list" mAppend (wVar 5) (aCons (wVar 7) (aNil)))) (sNil))) (sNil))
    (sRet (wCB nTuple (aCons (wCB nSorted (aCons (wVar 5) (aNil))) (aNil))))))
def w__law_plan : WS :=
    sSeq (sAsg (wOp rAdd (wC (.int 1)) (wCB r__law_draw (aCons (wVar 0) (aCons (wVar 2) (aNil))))) (gN 4))
    (sSeq (sIf (wtB (wOp rGt (wCB r__law_draw (aCons (wVar 0) (aCons (wC (.int 3)) (aNil)))) (wC (.int 0)))) (sAsg (wVar 2) (gN 4)) (sNil))
    (sSeq (sAsg (wTup (aNil)) (gN 5))
    (sSeq (sFor (iR1 (aCons (wVar 4) (aNil))) (gN 6) (sSeq (sAsg (wCB r__law_bars (aCons (wVar 0) (aCons (wVar 1) (aCons (wTup (aCons (wC (.str "<")) (aCons (wC (.str "<=")) (aNil)))) (aCons (wVar 3) (aCons (wC (.int 3)) (aNil))))))) (gN 7))
    (sSeq (sIf (wtB (wOp rEq (wVar 6) (wC (.int 0)))) (sAsg (wCB nTuple (aCons (wLc (iSeq (wVar 7)) (gN 13) (wtB (wOp rNe (wSl (wVar 13) (oSome (wC (.int 1))) oNone) (wTup (aCons (wC (.str "<")) (aCons (wC (.int 0)) (aNil)))))) (wVar 13) [13]) (aNil))) (gN 7)) (sNil))
    (sAsg (wOp rAdd (wVar 5) (wTup (aCons (wVar 7) (aNil)))) (gN 5)))))
    (sSeq (sAsg (wLst (aNil)) (gN 8))
    (sSeq (sFor (iR1 (aCons (wOp rAdd (wC (.int 1)) (wCB r__law_draw (aCons (wVar 0) (aCons (wOp rAdd (wOp rMulA (wC (.int 2)) (wVar 4)) (wC (.int 1))) (aNil))))) (aNil))) (gN 9) (sSeq (sAsg (wCB nTuple (aCons (wLc (iR1 (aCons (wVar 1) (aNil))) (gN 14) (wtB (wOp rEq (wCB r__law_draw (aCons (wVar 0) (aCons (wC (.int 2)) (aNil)))) (wC (.int 0)))) (wVar 14) [14]) (aNil))) (gN 10))
    (sSeq (sAsg (wTup (aCons (wCB r__law_draw (aCons (wVar 0) (aCons (wVar 4) (aNil)))) (aCons (wCB r__law_draw (aCons (wVar 0) (aCons (wC (.int 3)) (aNil)))) (aCons (wCB r__law_bars (aCons (wVar 0) (aCons (wVar 1) (aCons (wTup (aCons (wC (.str "<")) (aCons (wC (.str "<=")) (aCons (wC (.str ">")) (aCons (wC (.str ">=")) (aNil)))))) (aCons (wVar 3) (aCons (wC (.int 2)) (aNil))))))) (aCons (wVar 10) (aCons (wCB r__law_draw (aCons (wVar 0) (aCons (wVar 4) (aNil)))) (aNil))))))) (gN 11))
    (sSeq (sIf (wtB (wOp rEq (wVar 9) (wC (.int 0)))) (sAsg (wOp rAdd (wOp rAdd (wTup (aCons (wC (.int 0)) (aNil))) (wSl (wVar 11) (oSome (wC (.int 1))) (oSome (wC (.int 4))))) (wTup (aCons (wOp rSub (wVar 4) (wC (.int 1))) (aNil)))) (gN 11)) (sNil))
    (sIf (wtAnd (wtB (wOp rNotIn (wVar 11) (wVar 8))) (wtB (wOp rLt (wCB nLen (aCons (wVar 8) (aNil))) (wC (.int 8))))) (sDrop (wBM "list" mAppend (wVar 8) (aCons (wVar 11) (aNil)))) (sNil))))))
    (sSeq (sAsg (wCB nTuple (aCons (wLc (iR1 (aCons (wVar 4) (aNil))) (gN 6) (wtB (wOp rEq (wCB r__law_draw (aCons (wVar 0) (aCons (wC (.int 3)) (aNil)))) (wC (.int 0)))) (wVar 6) [6]) (aNil))) (gN 12))
    (sSeq (sIf (wtB (wOp rGt (wCB r__law_draw (aCons (wVar 0) (aCons (wC (.int 3)) (aNil)))) (wC (.int 0)))) (sAsg (wTup (aCons (wOp rSub (wVar 4) (wC (.int 1))) (aNil))) (gN 12)) (sNil))
    (sRet (wTup (aCons (wVar 1) (aCons (wVar 5) (aCons (wCB nTuple (aCons (wCB nSorted (aCons (wVar 8) (aNil))) (aNil))) (aCons (wVar 12) (aNil))))))))))))))
def w__law_is_bars : WS :=
    sSeq (sIf (wtNot (wtB (wCB nIsi (aCons (wVar 2) (aCons (wC (.ty "tuple")) (aNil)))))) (sRet (wC (.bl false))) (sNil))
    (sSeq (sFor (iSeq (wVar 2)) (gN 3) (sSeq (sIf (wtOr (wtNot (wtB (wCB nIsi (aCons (wVar 3) (aCons (wC (.ty "tuple")) (aNil)))))) (wtOr (wtB (wOp rNe (wCB nLen (aCons (wVar 3) (aNil))) (wC (.int 3)))) (wtNot (wtB (wCB r__law_int (aCons (wOp rIx (wVar 3) (wC (.int 0))) (aCons (wC (.int 0)) (aCons (wOp rSub (wVar 0) (wC (.int 1))) (aNil))))))))) (sRet (wC (.bl false))) (sNil))
    (sIf (wtOr (wtNot (wtB (wCB nIsi (aCons (wOp rIx (wVar 3) (wC (.int 1))) (aCons (wC (.ty "str")) (aNil)))))) (wtOr (wtB (wOp rNotIn (wOp rIx (wVar 3) (wC (.int 1))) (wVar 1))) (wtNot (wtB (wCB r__law_int (aCons (wOp rIx (wVar 3) (wC (.int 2))) (aCons (wC (.int 0)) (aCons (wC (.int 3)) (aNil))))))))) (sRet (wC (.bl false))) (sNil))))
    (sRet (wCB r__law_up (aCons (wVar 2) (aNil)))))
def w__law_is_plan : WS :=
    sSeq (sIf (wtOr (wtNot (wtB (wCB nIsi (aCons (wVar 0) (aCons (wC (.ty "tuple")) (aNil)))))) (wtOr (wtB (wOp rNe (wCB nLen (aCons (wVar 0) (aNil))) (wC (.int 4)))) (wtOr (wtNot (wtB (wCB r__law_int (aCons (wOp rIx (wVar 0) (wC (.int 0))) (aCons (wC (.int 1)) (aCons (wC (.int 2)) (aNil))))))) (wtOr (wtNot (wtB (wCB nIsi (aCons (wOp rIx (wVar 0) (wC (.int 1))) (aCons (wC (.ty "tuple")) (aNil)))))) (wtNot (wtB (wChain rLe rLe (wC (.int 1)) (wCB nLen (aCons (wOp rIx (wVar 0) (wC (.int 1))) (aNil))) (wC (.int 4))))))))) (sRet (wC (.bl false))) (sNil))
    (sSeq (sFor (iSeq (wOp rIx (wVar 0) (wC (.int 1)))) (gN 1) (sIf (wtNot (wtB (wCB r__law_is_bars (aCons (wOp rIx (wVar 0) (wC (.int 0))) (aCons (wTup (aCons (wC (.str "<")) (aCons (wC (.str "<=")) (aNil)))) (aCons (wVar 1) (aNil))))))) (sRet (wC (.bl false))) (sNil)))
    (sSeq (sAsg (wCB nLen (aCons (wOp rIx (wVar 0) (wC (.int 1))) (aNil))) (gN 2))
    (sSeq (sIf (wtOr (wtNot (wtB (wCB nIsi (aCons (wOp rIx (wVar 0) (wC (.int 2))) (aCons (wC (.ty "tuple")) (aNil)))))) (wtB (wOp rGt (wCB nLen (aCons (wOp rIx (wVar 0) (wC (.int 2))) (aNil))) (wC (.int 8))))) (sRet (wC (.bl false))) (sNil))
    (sSeq (sFor (iSeq (wOp rIx (wVar 0) (wC (.int 2)))) (gN 3) (sSeq (sIf (wtOr (wtNot (wtB (wCB nIsi (aCons (wVar 3) (aCons (wC (.ty "tuple")) (aNil)))))) (wtOr (wtB (wOp rNe (wCB nLen (aCons (wVar 3) (aNil))) (wC (.int 5)))) (wtOr (wtNot (wtB (wCB r__law_int (aCons (wOp rIx (wVar 3) (wC (.int 0))) (aCons (wC (.int 0)) (aCons (wOp rSub (wVar 2) (wC (.int 1))) (aNil))))))) (wtNot (wtB (wCB r__law_int (aCons (wOp rIx (wVar 3) (wC (.int 4))) (aCons (wC (.int 0)) (aCons (wOp rSub (wVar 2) (wC (.int 1))) (aNil)))))))))) (sRet (wC (.bl false))) (sNil))
    (sIf (wtOr (wtNot (wtB (wCB r__law_int (aCons (wOp rIx (wVar 3) (wC (.int 1))) (aCons (wC (.int 0)) (aCons (wC (.int 2)) (aNil))))))) (wtOr (wtNot (wtB (wCB r__law_is_bars (aCons (wOp rIx (wVar 0) (wC (.int 0))) (aCons (wTup (aCons (wC (.str "<")) (aCons (wC (.str "<=")) (aCons (wC (.str ">")) (aCons (wC (.str ">=")) (aNil)))))) (aCons (wOp rIx (wVar 3) (wC (.int 2))) (aNil))))))) (wtNot (wtB (wCB r__law_set (aCons (wOp rIx (wVar 3) (wC (.int 3))) (aCons (wC (.int 0)) (aCons (wOp rSub (wOp rIx (wVar 0) (wC (.int 0))) (wC (.int 1))) (aNil))))))))) (sRet (wC (.bl false))) (sNil))))
    (sRet (wAnd (wCB r__law_up (aCons (wOp rIx (wVar 0) (wC (.int 2))) (aNil))) (wCB r__law_set (aCons (wOp rIx (wVar 0) (wC (.int 3))) (aCons (wC (.int 0)) (aCons (wOp rSub (wVar 2) (wC (.int 1))) (aNil)))))))))))
end PL

namespace PL
open PySem PySem.Spec PyProof.Rows L2 MP

local macro_rules | `(tactic| walk_at "mp1") => `(tactic| simp only [e_wVar, e_wC, e_wOp, e_wUn, e_aNil, e_aCons, e_wCB, e_wCK, e_wTup, e_wLst, e_wtB, e_wtV, e_wtNot, e_wtAnd, e_wtOr, e_wAnd, e_wOr, e_wNot, e_wIf, e_wChain, e_wSl, e_oNone, e_oSome, e_wBM, e_wLc, e_wLc2, e_wDc, e_wDn, e_wDn2, e_nRng1, e_iRg, e_wRev, e_revF_tup, e_wtYes, e_sNil, e_sSeq, e_sBreak, e_sCont, e_sDrop, e_sRet, e_sRetN, e_sIf, e_sAsg, e_sPar, e_sAug, e_sFor, e_gN, e_gsNil, e_gsCons, e_gT, e_gSubD, e_iSeq, e_iR1, e_iR2, e_iEnumL, e_iEnumT, e_iZipW, e_mAppend, e_mExtend, e_mIndex, e_nLen, e_nTuple, e_nList, e_nBls, e_rIx, e_rIadd_int, e_nSorted, e_nSortedK, e_nSortedS, e_wDNew, e_wDisp2, e_iKy, e_iPr, e_nBest, e_kBestD, e_rAdd_int, e_rAdd_tup, e_rAdd_str, e_rAdd_ref, e_rSub_int, e_rMulA_int, e_rMulA_tup, e_rMulA_ref, e_rFdiv_int, e_rMod_int, e_rPow_int, e_rLe_int, e_rGt_int, e_rGe_int, e_rLt_int, e_rLt_tup, e_rEqn_int, e_rEqn_str, e_rEqn_bl, e_rEqn_tup, e_rEqn_ref, e_rIsn_non, e_rIsn_bl, e_rInn_tup, e_rNeg_int, e_ix_tup, e_ix_fl, len_tup, len_fl, items_tup, items_fl, iseq_tup, iseq_fl, e_nInt_int, e_nInt_bl, e_nInt1_int, e_nInt2_int, e_r2F, e_tru_bl, e_tru_int, e_tru_tup, tn_int, tn_bl, tn_str, tn_non, tn_tup, tn_fl, kb_int_int, kb_int_bool, kb_int_str, kb_int_tuple, kb_int_list, kb_bool_int, kb_bool_bool, kb_bool_str, kb_bool_tuple, kb_bool_list, kb_str_int, kb_str_bool, kb_str_str, kb_str_tuple, kb_str_list, kb_NoneType_int, kb_NoneType_bool, kb_NoneType_str, kb_NoneType_tuple, kb_NoneType_list, kb_tuple_int, kb_tuple_bool, kb_tuple_str, kb_tuple_tuple, kb_tuple_list, kb_list_int, kb_list_bool, kb_list_str, kb_list_tuple, kb_list_list, s_at0, s_at1, s_at2, s_at3, s_at4, s_ex2, startD, List.map_cons, List.map_nil, List.length_cons, List.length_nil, List.replicate_succ, List.replicate_zero, List.cons_append, List.nil_append, List.append_nil, Nat.sub_self, Nat.reduceAdd, Nat.reduceSub, List.getElem?_cons_zero, List.getElem?_cons_succ, List.getElem?_nil, Option.some.injEq, reduceCtorEq, false_and, and_false, exists_false, exists_eq_left', exists_and_left, exists_and_right, exists_eq_right, D.int.injEq, D.bl.injEq, D.str.injEq, D.tup.injEq, D.ref.injEq, D.ty.injEq, List.cons.injEq, and_self, true_and, and_true, exists_eq_left, List.set_cons_zero, List.set_cons_succ, wipeD, forall_const, if_true, false_implies, true_implies, implies_true, Bool.false_eq_true, Bool.true_eq_false, eq_self_iff_true, xor_f, xor_t, Bool.not_true, Bool.not_false, decide_eq_true_eq, decide_eq_false_iff_not])
local macro_rules | `(tactic| walk_at "mp") => `(tactic| (try dsimp only); (try walk_at "mp1"))
local macro_rules | `(tactic| walk_at "cm") => `(tactic| first | exact cmul_r ⟨by decide, by decide⟩ | exact cmul_l ⟨by decide, by decide⟩ | exact cmul_r ⟨by omega, by omega⟩ | exact cmul_l ⟨by omega, by omega⟩)
theorem bar_nb (b : Bar) : (barD b).nb = true := rfl
theorem bar_alike (b c : Bar) : PySem.W.alike (barD b).py (barD c).py = true := rfl
theorem law__law_bars : FnLaw 8 5 w__law_bars r__law_bars := law_dr fun p r c m rest M cn hp hk ⟨p', cl, k, top, lean, e, ⟨hc1, hc2⟩, hm, ⟨ht0, ht3⟩, hl1, hl2⟩ => by
  simp only [List.cons.injEq, D.ref.injEq] at e
  obtain ⟨rfl, rfl⟩ := e
  have hk1 : 1 ≤ k ∧ k ≤ 4 := by omega
  refine ⟨rfl, ?_⟩
  intro R mkR
  have mkR : ∀ (bs : List Bar) (M' : Mem), bs.length ≤ 3 → (∀ b ∈ bs, okB cl k b ∧ b.2.2 ≤ top) → DrS p r c (m + 11) M M' → R (.tup (bs.map barD)) M' := fun bs M' k1 k2 s => mkR _ _ ⟨p, cl, k, top, lean, bs, rfl, rfl, k1, fun b hb => (k2 b hb).1, fun b hb => (k2 b hb).2⟩ s
  have sz := sizeLine_eq
  have e62 : (2 : Int) ^ 62 = 4611686018427387904 := by decide
  have hpn : M p ≠ none := by rw [hp]; exact fun z => by cases z
  obtain ⟨sgD, hsg⟩ : ∃ s : D, s = sgs k := ⟨_, rfl⟩
  have sgl : ∀ (M : Mem) (Q : Nat → Prop), Q k → lenF sgD M Q := fun M Q q => by
    rw [hsg]
    show Q ((List.range k).map fun k => D.str (sg k)).length
    rw [List.length_map, List.length_range]; exact q
  have sgx : ∀ (i : Int) (M : Mem) (Q : D → Prop), 0 ≤ i → i < k → (∀ n : Nat, n < k → Q (.str (sg n))) → ixF sgD (.int i) M Q := fun i M Q k0 k1 q => by
    obtain ⟨n, rfl⟩ := Int.eq_ofNat_of_zero_le k0
    have hn : n < k := by omega
    rw [hsg]
    unfold sgs
    rw [e_ix_tup]
    refine ⟨_, atI_nat ?_, q n hn⟩
    rw [List.getElem?_map, List.getElem?_range hn]; rfl
  rw [← hsg]
  unfold w__law_bars rtE
  refine seq_cut (fun ρ M1 => ∃ f, ρ = [some (.ref p), some (.int (cl : Nat)), some sgD, some (.int top), some (.int lean), some (.ref f), none, none] ∧ M f = none ∧ M1 f = some (.lst []) ∧ DrS p r c m M M1) (fun I mk => ?_) ?_
  · walk_at "mp"
    exact ⟨by omega, fun f hf => mk _ _ ⟨f, rfl, hf, mupd_same, (DrS.refl hp).upd hf hpn⟩⟩
  rintro _ M1 ⟨f, rfl, hf, hf1, s1⟩
  have nfp : f ≠ p := fun z => hpn (by rw [← z]; exact hf)
  refine seq_cut (fun ρ M2 => ∃ (x6 : Option D) (L : List Bar), ρ = [some (.ref p), some (.int (cl : Nat)), some sgD, some (.int top), some (.int lean), some (.ref f), x6, none] ∧ M2 f = some (.lst (L.map barD)) ∧ DrS p r c (m + 7) M M2 ∧ L.length ≤ 2 ∧ ∀ b ∈ L, okB cl k b ∧ b.2.2 ≤ top) (fun I mk => ?_) ?_
  · walk_at "mp"
    refine ⟨by omega, by omega, ?_⟩
    refine loop_r0 (fun i ρ M2 => ∃ (x6 : Option D) (L : List Bar), ρ = [some (.ref p), some (.int (cl : Nat)), some sgD, some (.int top), some (.int lean), some (.ref f), x6, none] ∧ M2 f = some (.lst (L.map barD)) ∧ DrS p r c (m + 3 * i) M M2 ∧ L.length ≤ i ∧ ∀ b ∈ L, okB cl k b ∧ b.2.2 ≤ top) ?step ?fin _ _ ⟨_, [], rfl, hf1, s1, Nat.le_refl _, fun b hb => by cases hb⟩
    case fin =>
      rintro ρ M2 ⟨x6, L, rfl, h2, s2, k1, k2⟩
      exact mk _ _ ⟨_, L, rfl, h2, s2.le (by omega), by omega, k2⟩
    case step =>
      rintro J mkJ i ρ M2 hi ⟨x6, L, rfl, h2, s2, k1, k2⟩
      walk_at "mp"
      obtain ⟨m2, hm2, p2⟩ := s2.1
      rw [draw_at p2]
      refine ⟨by omega, by omega, fun d hd0 hd1 => ?_⟩
      have s3 := s2.ask (k := 1) p2
      have h3 : (mupd M2 p (.pool r c (m2 + 1))) f = some (.lst (L.map barD)) := by rw [mupd_ne nfp]; exact h2
      have p3 : (mupd M2 p (.pool r c (m2 + 1))) p = some (.pool r c (m2 + 1)) := mupd_same
      generalize mupd M2 p (.pool r c (m2 + 1)) = M3 at s3 h3 p3
      walk_at "mp"
      rw [ty_lst h3]
      refine ⟨fun _ => ⟨trivial, ?_⟩, fun _ => mkJ _ _ _ ⟨_, L, rfl, h3, s3.le (by omega), by omega, k2⟩⟩
      refine sgl _ _ ?_
      rw [draw_at p3]
      refine ⟨by omega, by omega, fun z hz0 hz1 => sgx z _ _ hz0 hz1 fun n hn => ?_⟩
      rw [draw_at mupd_same]
      refine ⟨by omega, by omega, fun u hu0 hu1 => ⟨by omega, _, by rw [mupd_ne nfp, mupd_ne nfp]; exact h3, by rw [List.length_map]; omega, mkJ _ _ _ ⟨_, L ++ [((i : Int), n, u)], rfl, by rw [mupd_same, List.map_append]; rfl, ?_, by rw [List.length_append, List.length_singleton]; omega, fun b hb => ?_⟩⟩⟩
      · exact ((((s3.ask p3).ask mupd_same).le (by omega)).upd hf hpn)
      · rcases List.mem_append.mp hb with hb | hb
        · exact k2 b hb
        · rw [List.mem_singleton.mp hb]
          refine ⟨⟨⟨?_, ?_⟩, hn, hu0, ?_⟩, ?_⟩
          · show 0 ≤ (i : Int); omega
          · show (i : Int) ≤ cl - 1; omega
          · show u ≤ 3; omega
          · show u ≤ top; omega
  rintro _ M2 ⟨x6, L, rfl, h2, s2, k1, k2⟩
  refine seq_cut (fun ρ M3 => ∃ (x6 x7 : Option D) (L : List Bar), ρ = [some (.ref p), some (.int (cl : Nat)), some sgD, some (.int top), some (.int lean), some (.ref f), x6, x7] ∧ M3 f = some (.lst (L.map barD)) ∧ DrS p r c (m + 11) M M3 ∧ L.length ≤ 3 ∧ ∀ b ∈ L, okB cl k b ∧ b.2.2 ≤ top) (fun I mk => ?_) ?_
  · walk_at "mp"
    obtain ⟨m2, hm2, p2⟩ := s2.1
    rw [draw_at p2]
    refine ⟨by omega, by omega, fun d hd0 hd1 => ?_⟩
    have s3 := s2.ask (k := 1) p2
    have h3 : (mupd M2 p (.pool r c (m2 + 1))) f = some (.lst (L.map barD)) := by rw [mupd_ne nfp]; exact h2
    have p3 : (mupd M2 p (.pool r c (m2 + 1))) p = some (.pool r c (m2 + 1)) := mupd_same
    generalize mupd M2 p (.pool r c (m2 + 1)) = M3 at s3 h3 p3
    walk_at "mp"
    refine ⟨fun _ => ?_, fun _ => mk _ _ ⟨_, _, L, rfl, h3, s3.le (by omega), by omega, k2⟩⟩
    rw [draw_at p3]
    refine ⟨by omega, by omega, fun a ha0 ha1 => ?_⟩
    refine sgl _ _ ?_
    rw [draw_at mupd_same]
    refine ⟨by omega, by omega, fun z hz0 hz1 => sgx z _ _ hz0 hz1 fun n hn => ?_⟩
    rw [draw_at mupd_same]
    refine ⟨by omega, by omega, fun u hu0 hu1 => ⟨by omega, ?_⟩⟩
    have s4 : DrS p r c (m + 11) M (mupd (mupd (mupd M3 p (.pool r c (m2 + 1 + 1))) p (.pool r c (m2 + 1 + 1 + 1))) p (.pool r c (m2 + 1 + 1 + 1 + 1))) := (((s3.ask p3).ask mupd_same).ask mupd_same).le (by omega)
    have h4 : (mupd (mupd (mupd M3 p (.pool r c (m2 + 1 + 1))) p (.pool r c (m2 + 1 + 1 + 1))) p (.pool r c (m2 + 1 + 1 + 1 + 1))) f = some (.lst (L.map barD)) := by rw [mupd_ne nfp, mupd_ne nfp, mupd_ne nfp]; exact h3
    generalize mupd (mupd (mupd M3 p (.pool r c (m2 + 1 + 1))) p (.pool r c (m2 + 1 + 1 + 1))) p (.pool r c (m2 + 1 + 1 + 1 + 1)) = M4 at s4 h4
    have one : okB cl k (a, n, u) ∧ u ≤ top := ⟨⟨⟨ha0, by show a ≤ cl - 1; omega⟩, hn, hu0, by show u ≤ 3; omega⟩, by show u ≤ top; omega⟩
    rw [show D.tup [.int a, .str (sg n), .int u] = barD (a, n, u) from rfl, in_lst h4]
    refine ⟨nbs_pls _ (nbs_map barD bar_nb L), rfl, Nat.le_trans (Nat.min_le_right _ _) (Nat.le_of_ble_eq_true rfl), _, rfl, fun _ => ?_, fun _ => mk _ _ ⟨_, _, L, rfl, h4, s4, by omega, k2⟩⟩
    rw [ty_lst h4]
    refine ⟨trivial, _, h4, by rw [List.length_map]; omega, mk _ _ ⟨_, _, L ++ [(a, n, u)], rfl, by rw [mupd_same, List.map_append]; rfl, s4.upd hf hpn, by rw [List.length_append, List.length_singleton]; omega, fun b hb => ?_⟩⟩
    rcases List.mem_append.mp hb with hb | hb
    · exact k2 b hb
    · rw [List.mem_singleton.mp hb]; exact one
  rintro _ M3 ⟨x6', x7, L', rfl, h3, s3, j1, j2⟩
  walk_at "mp"
  obtain ⟨L2, e1, e2⟩ := sort_perm barD L'
  refine ⟨_, h3, fun d hd d' hd' => ?_, .inl fun d hd => ?_, fun x hx => ?_, fun q hq => ?_⟩
  · simp only [List.map_map, List.mem_map] at hd hd'
    obtain ⟨x, _, rfl⟩ := hd
    obtain ⟨y, _, rfl⟩ := hd'
    exact bar_alike x y
  · simp only [List.map_map, List.mem_map] at hd
    obtain ⟨x, _, rfl⟩ := hd
    exact ⟨_, _, rfl⟩
  · obtain ⟨y, _, rfl⟩ := List.mem_map.mp hx
    exact ⟨rfl, Nat.le_of_ble_eq_true rfl⟩
  · rw [items_lst mupd_same, e1]
    exact mkR L2 _ (by rw [e2.length_eq]; exact j1) (fun b hb => j2 b (e2.mem_iff.mp hb)) (s3.sub (Sub.new hq))
end PL

namespace PL
open PySem PySem.Spec PyProof.Rows L2 MP

local macro_rules | `(tactic| walk_at "mp1") => `(tactic| simp only [e_wVar, e_wC, e_wOp, e_wUn, e_aNil, e_aCons, e_wCB, e_wCK, e_wTup, e_wLst, e_wtB, e_wtV, e_wtNot, e_wtAnd, e_wtOr, e_wAnd, e_wOr, e_wNot, e_wIf, e_wChain, e_wSl, e_oNone, e_oSome, e_wBM, e_wLc, e_wLc2, e_wDc, e_wDn, e_wDn2, e_nRng1, e_iRg, e_wRev, e_revF_tup, e_wtYes, e_sNil, e_sSeq, e_sBreak, e_sCont, e_sDrop, e_sRet, e_sRetN, e_sIf, e_sAsg, e_sPar, e_sAug, e_sFor, e_gN, e_gsNil, e_gsCons, e_gT, e_gSubD, e_iSeq, e_iR1, e_iR2, e_iEnumL, e_iEnumT, e_iZipW, e_mAppend, e_mExtend, e_mIndex, e_nLen, e_nTuple, e_nList, e_nBls, e_rIx, e_rIadd_int, e_nSorted, e_nSortedK, e_nSortedS, e_wDNew, e_wDisp2, e_iKy, e_iPr, e_nBest, e_kBestD, e_rAdd_int, e_rAdd_tup, e_rAdd_str, e_rAdd_ref, e_rSub_int, e_rMulA_int, e_rMulA_tup, e_rMulA_ref, e_rFdiv_int, e_rMod_int, e_rPow_int, e_rLe_int, e_rGt_int, e_rGe_int, e_rLt_int, e_rLt_tup, e_rEqn_int, e_rEqn_str, e_rEqn_bl, e_rEqn_tup, e_rEqn_ref, e_rIsn_non, e_rIsn_bl, e_rInn_tup, e_rNeg_int, e_ix_tup, e_ix_fl, len_tup, len_fl, items_tup, items_fl, iseq_tup, iseq_fl, e_nInt_int, e_nInt_bl, e_nInt1_int, e_nInt2_int, e_r2F, e_tru_bl, e_tru_int, e_tru_tup, tn_int, tn_bl, tn_str, tn_non, tn_tup, tn_fl, kb_int_int, kb_int_bool, kb_int_str, kb_int_tuple, kb_int_list, kb_bool_int, kb_bool_bool, kb_bool_str, kb_bool_tuple, kb_bool_list, kb_str_int, kb_str_bool, kb_str_str, kb_str_tuple, kb_str_list, kb_NoneType_int, kb_NoneType_bool, kb_NoneType_str, kb_NoneType_tuple, kb_NoneType_list, kb_tuple_int, kb_tuple_bool, kb_tuple_str, kb_tuple_tuple, kb_tuple_list, kb_list_int, kb_list_bool, kb_list_str, kb_list_tuple, kb_list_list, s_at0, s_at1, s_at2, s_at3, s_at4, s_ex2, startD, List.map_cons, List.map_nil, List.length_cons, List.length_nil, List.replicate_succ, List.replicate_zero, List.cons_append, List.nil_append, List.append_nil, Nat.sub_self, Nat.reduceAdd, Nat.reduceSub, List.getElem?_cons_zero, List.getElem?_cons_succ, List.getElem?_nil, Option.some.injEq, reduceCtorEq, false_and, and_false, exists_false, exists_eq_left', exists_and_left, exists_and_right, exists_eq_right, D.int.injEq, D.bl.injEq, D.str.injEq, D.tup.injEq, D.ref.injEq, D.ty.injEq, List.cons.injEq, and_self, true_and, and_true, exists_eq_left, List.set_cons_zero, List.set_cons_succ, wipeD, forall_const, if_true, false_implies, true_implies, implies_true, Bool.false_eq_true, Bool.true_eq_false, eq_self_iff_true, xor_f, xor_t, Bool.not_true, Bool.not_false, decide_eq_true_eq, decide_eq_false_iff_not])
local macro_rules | `(tactic| walk_at "mp") => `(tactic| (try dsimp only); (try walk_at "mp1"))
local macro_rules | `(tactic| walk_at "cm") => `(tactic| first | exact cmul_r ⟨by decide, by decide⟩ | exact cmul_l ⟨by decide, by decide⟩ | exact cmul_r ⟨by omega, by omega⟩ | exact cmul_l ⟨by omega, by omega⟩)
theorem sgs4 : D.tup [.str (Str.ofString "<"), .str (Str.ofString "<="), .str (Str.ofString ">"), .str (Str.ofString ">=")] = sgs 4 := rfl
theorem sgs2 : D.tup [.str (Str.ofString "<"), .str (Str.ofString "<=")] = sgs 2 := rfl
theorem alike_bars : ∀ (r s : List Bar), PySem.W.alikeAll (D.pys (r.map barD)) (D.pys (s.map barD)) = true
  | [], s => by rw [List.map_nil, D.pys, PySem.W.alikeAll]
  | _ :: _, [] => by rw [List.map_nil, List.map_cons, D.pys, D.pys, PySem.W.alikeAll]
  | x :: xs, y :: ys => by
    rw [List.map_cons, List.map_cons, D.pys, D.pys, PySem.W.alikeAll, alike_bars xs ys]; rfl
theorem alike_is : ∀ (r s : List Int), PySem.W.alikeAll (D.pys (r.map D.int)) (D.pys (s.map D.int)) = true
  | [], s => by rw [List.map_nil, D.pys, PySem.W.alikeAll]
  | _ :: _, [] => by rw [List.map_nil, List.map_cons, D.pys, D.pys, PySem.W.alikeAll]
  | x :: xs, y :: ys => by
    rw [List.map_cons, List.map_cons, D.pys, D.pys, PySem.W.alikeAll, alike_is xs ys]; rfl
theorem edge_alike (e f : Edge) : PySem.W.alike (edgeD e).py (edgeD f).py = true := by
  show PySem.W.alike (.tuple [.int e.s, .int e.d, .tuple (D.pys (e.bars.map barD)), .tuple (D.pys (e.rs.map D.int)), .int e.g]) (.tuple [.int f.s, .int f.d, .tuple (D.pys (f.bars.map barD)), .tuple (D.pys (f.rs.map D.int)), .int f.g]) = true
  have h1 : PySem.W.alike (.tuple (D.pys (e.bars.map barD))) (.tuple (D.pys (f.bars.map barD))) = true := by rw [PySem.W.alike]; exact alike_bars _ _
  have h2 : PySem.W.alike (.tuple (D.pys (e.rs.map D.int))) (.tuple (D.pys (f.rs.map D.int))) = true := by rw [PySem.W.alike]; exact alike_is _ _
  rw [PySem.W.alike]
  simp only [PySem.W.alikeAll, h1, h2]
  rfl
theorem bars_pl (bs : List Bar) : (barsD bs).nb = true := by
  have := nbs_map barD (fun _ => rfl) bs
  exact this
theorem is_nb (l : List Int) : (isD l).nb = true := nbs_map D.int (fun _ => rfl) l
theorem edge_nb (e : Edge) : (edgeD e).nb = true := by
  have h1 := bars_pl e.bars
  have h2 := is_nb e.rs
  show ((D.int e.s).nb && ((D.int e.d).nb && ((barsD e.bars).nb && ((isD e.rs).nb && ((D.int e.g).nb && true))))) = true
  rw [h1, h2]; rfl
theorem bars_dep (bs : List Bar) : (barsD bs).dep ≤ 2 := by
  have := deps_map barD 1 (fun _ => Nat.le_refl _) bs
  unfold barsD
  rw [dep_tup]; omega
theorem is_dep (l : List Int) : (isD l).dep ≤ 1 := by
  have := deps_map D.int 0 (fun _ => Nat.le_refl _) l
  show (D.tup (l.map D.int)).dep ≤ 1
  rw [dep_tup]; omega
theorem deps_le {n : Nat} : ∀ {xs : List D}, (∀ x ∈ xs, x.dep ≤ n) → D.deps xs ≤ n
  | [], _ => Nat.zero_le _
  | x :: xs, h => by
    have h1 := h x List.mem_cons_self
    have h2 : D.deps xs ≤ n := deps_le fun y hy => h y (List.mem_cons_of_mem _ hy)
    show PyData.depthAll (x.py :: D.pys xs) ≤ n
    rw [PyData.depthAll]
    exact Nat.max_le.mpr ⟨h1, h2⟩
theorem edge_dep (e : Edge) : (edgeD e).dep ≤ 3 := by
  unfold edgeD
  rw [dep_tup]
  have : D.deps [D.int e.s, .int e.d, barsD e.bars, isD e.rs, .int e.g] ≤ 2 := deps_le fun x hx => by
    simp only [List.mem_cons, List.not_mem_nil, or_false] at hx
    rcases hx with rfl | rfl | rfl | rfl | rfl
    · exact Nat.zero_le _
    · exact Nat.zero_le _
    · exact bars_dep _
    · exact Nat.le_trans (is_dep _) (by decide)
    · exact Nat.zero_le _
  omega
theorem edge_okLt (e f : Edge) : okLt (edgeD e) (edgeD f) := ⟨⟨_, _, rfl, rfl⟩, edge_alike e f, Nat.le_trans (Nat.min_le_left _ _) (Nat.le_trans (edge_dep e) (by decide)), MP.nb_pl _ (edge_nb e), MP.nb_pl _ (edge_nb f)⟩
theorem bars_at {p r c : Addr} {m cl k : Nat} {top lean : Int} {M : Mem} {Q : D → Mem → Prop} (hp : M p = some (.pool r c m)) (hm : m + 11 ≤ 1000000000) (hc : 1 ≤ cl ∧ cl ≤ 2) (hk : k = 2 ∨ k = 4) (ht : 0 ≤ top ∧ top ≤ 3) (hl : 1 ≤ lean) (hl2 : lean ≤ 100)
    (q : ∀ bs : List Bar, bs.length ≤ 3 → okBs cl k bs → (∀ b ∈ bs, b.2.2 ≤ top) → Q (barsD bs) (mupd M p (.pool r c (m + 11)))) : r__law_bars.f [.ref p, .int ((cl : Nat) : Int), sgs k, .int top, .int lean] M Q := by
  rw [r__law_bars, dr_pool hp]
  refine ⟨hm, ⟨p, cl, k, top, lean, rfl, hc, hk, ht, hl, hl2⟩, fun d ⟨p', cl', k', top', lean', bs, e, e2, h1, h2, h3⟩ => ?_⟩
  simp only [List.cons.injEq, D.ref.injEq, D.int.injEq, Int.natCast_inj] at e
  obtain ⟨_, rfl, e3, rfl, _⟩ := e
  have : k' = k := by
    have := congrArg (fun d => match d with | D.tup xs => xs.length | _ => 0) e3
    simpa [sgs] using this.symm
  subst this
  subst e2
  exact q bs h1 h2 h3
structure bsI (cl : Nat) (top : Int) (bs : List (List Bar)) : Prop where
  ok : ∀ b ∈ bs, okBs cl 2 b
  few : ∀ b ∈ bs, b.length ≤ 3
  top : ∀ b ∈ bs, ∀ x ∈ b, x.2.2 ≤ top
  first : ∀ b, bs.head? = some b → ∀ x ∈ b, ¬ (x.2.1 = 0 ∧ x.2.2 = 0)
structure edI (cl n : Nat) (top : Int) (e : Edge) : Prop where
  ok : okE cl n e
  few : e.bars.length ≤ 3
  rs : e.rs.length ≤ 2
  top : ∀ x ∈ e.bars, x.2.2 ≤ top
theorem bsI.add {cl : Nat} {top : Int} {bs : List (List Bar)} {b : List Bar} (h : bsI cl top bs) (h1 : okBs cl 2 b) (h2 : b.length ≤ 3) (h3 : ∀ x ∈ b, x.2.2 ≤ top) (h4 : bs.length = 0 → ∀ x ∈ b, ¬ (x.2.1 = 0 ∧ x.2.2 = 0)) : bsI cl top (bs ++ [b]) := by
  refine ⟨fun y hy => ?_, fun y hy => ?_, fun y hy => ?_, fun y hy => ?_⟩
  · rcases List.mem_append.mp hy with g | g
    · exact h.ok y g
    · rw [List.mem_singleton.mp g]; exact h1
  · rcases List.mem_append.mp hy with g | g
    · exact h.few y g
    · rw [List.mem_singleton.mp g]; exact h2
  · rcases List.mem_append.mp hy with g | g
    · exact h.top y g
    · rw [List.mem_singleton.mp g]; exact h3
  · cases bs with
    | nil =>
      simp at hy
      subst hy
      exact h4 rfl
    | cons z zs => exact h.first y (by simpa using hy)
def eqLt0 (b : Bar) : Bool := eqD (.tup [.str (sg b.2.1), .int b.2.2]) (.tup [.str (Str.ofString "<"), .int 0])
theorem eqLt0_no {b : Bar} (h : eqLt0 b = false) : ¬ (b.2.1 = 0 ∧ b.2.2 = 0) := fun ⟨h1, h2⟩ => by
  unfold eqLt0 at h
  rw [h1, h2] at h
  exact absurd h (by decide +kernel)
theorem cut1 (a b c : D) : MP.cutD [a, b, c] (some 1) none = [b, c] := rfl
theorem cut14 (a b c d e : D) : MP.cutD [a, b, c, d, e] (some 1) (some 4) = [b, c, d] := rfl
theorem rng_int {y : D} {n i : Nat} (hy : (rngD 0 n)[i]? = some y) : i < n ∧ y = .int ((i : Nat) : Int) := by
  unfold rngD at hy
  rw [List.getElem?_map] at hy
  obtain ⟨z, hz, e⟩ := Option.map_eq_some_iff.mp hy
  have := (List.getElem?_eq_some_iff.mp hz)
  obtain ⟨h1, h2⟩ := this
  rw [List.length_range] at h1
  rw [List.getElem_range] at h2
  subst h2
  exact ⟨h1, by rw [← e, Int.zero_add]⟩
def r__law_plan2 : WN := nDr 210 (fun ds _ => ∃ (p : Addr) (c : Nat) (n top : Int), ds = [.ref p, .int ((c : Nat) : Int), .int n, .int top] ∧ (1 ≤ c ∧ c ≤ 2) ∧ (1 ≤ n ∧ n ≤ 4) ∧ 0 ≤ top ∧ top ≤ 3)
  fun ds _ d => ∃ (p : Addr) (c : Nat) (n top : Int) (pl : Plan), ds = [.ref p, .int ((c : Nat) : Int), .int n, .int top] ∧ d = planD pl ∧ pl.c = c ∧ drP top pl ∧ 0 < pl.edges.length
theorem law__law_plan2 : FnLaw 15 4 w__law_plan r__law_plan2 := law_dr fun p r c m rest M cn hp hk ⟨p', cl, st, top, e, hc, hst, ht0, ht3⟩ => by
  simp only [List.cons.injEq, D.ref.injEq] at e
  obtain ⟨rfl, rfl⟩ := e
  refine ⟨rfl, ?_⟩
  intro R mkR
  have mkR : ∀ (pl : Plan) (M' : Mem), pl.c = cl → drP top pl → 0 < pl.edges.length → DrS p r c (m + 210) M M' → R (planD pl) M' := fun pl M' k1 k2 k3 s => mkR _ _ ⟨p, cl, st, top, pl, rfl, rfl, k1, k2, k3⟩ s
  have sz := sizeLine_eq
  have e62 : (2 : Int) ^ 62 = 4611686018427387904 := by decide
  have hpn : M p ≠ none := by rw [hp]; exact fun z => by cases z
  unfold w__law_plan rtE
  refine seq_cut (fun ρ M1 => ∃ n : Nat, ρ = [some (.ref p), some (.int (cl : Nat)), some (.int st), some (.int top), some (.int (n : Nat)), none, none, none, none, none, none, none, none, none, none] ∧ (1 ≤ n ∧ (n : Int) ≤ st) ∧ DrS p r c (m + 1) M M1) (fun I mk => ?_) ?_
  · walk_at "mp"
    rw [draw_at hp]
    refine ⟨by omega, by omega, fun d hd0 hd1 => ?_⟩
    obtain ⟨n, rfl⟩ := Int.eq_ofNat_of_zero_le hd0
    walk_at "mp"
    exact mk _ _ ⟨1 + n, by rw [Int.natCast_add]; rfl, by omega, (DrS.refl hp).ask hp⟩
  rintro _ M1 ⟨n0, rfl, hn0, s1⟩
  refine seq_cut (fun ρ M2 => ∃ n : Nat, ρ = [some (.ref p), some (.int (cl : Nat)), some (.int st), some (.int top), some (.int (n : Nat)), none, none, none, none, none, none, none, none, none, none] ∧ (1 ≤ n ∧ n ≤ 4) ∧ DrS p r c (m + 2) M M2) (fun I mk => ?_) ?_
  · walk_at "mp"
    obtain ⟨m1, hm1, p1⟩ := s1.1
    rw [draw_at p1]
    refine ⟨by omega, by omega, fun d hd0 hd1 => ?_⟩
    have s2 : DrS p r c (m + 2) M (mupd M1 p (.pool r c (m1 + 1))) := (s1.ask p1).le (by omega)
    walk_at "mp"
    refine ⟨fun _ => ?_, fun _ => mk _ _ ⟨n0, rfl, by omega, s2⟩⟩
    obtain ⟨sn, rfl⟩ := Int.eq_ofNat_of_zero_le (show 0 ≤ st by omega)
    exact mk _ _ ⟨sn, rfl, by omega, s2⟩
  rintro _ M2 ⟨n, rfl, hn, s2⟩
  refine seq_cut (fun ρ M3 => ρ = [some (.ref p), some (.int (cl : Nat)), some (.int st), some (.int top), some (.int (n : Nat)), some (.tup []), none, none, none, none, none, none, none, none, none] ∧ M3 = M2) (fun I mk => ?_) ?_
  · walk_at "mp"
    exact ⟨by omega, mk _ _ ⟨rfl, rfl⟩⟩
  rintro _ M3 ⟨rfl, rfl⟩
  -- the bounds
  refine seq_cut (fun ρ M4 => ∃ (bs : List (List Bar)) (x6 x7 : Option D), ρ = [some (.ref p), some (.int (cl : Nat)), some (.int st), some (.int top), some (.int (n : Nat)), some (boundsD bs), x6, x7, none, none, none, none, none, none, none] ∧ bs.length = n ∧ bsI cl top bs ∧ DrS p r c (m + 46) M M4) (fun I mk => ?_) ?_
  · walk_at "mp"
    refine ⟨by omega, by omega, ?_⟩
    refine loop_r0 (fun i ρ M4 => ∃ (bs : List (List Bar)) (x6 x7 : Option D), ρ = [some (.ref p), some (.int (cl : Nat)), some (.int st), some (.int top), some (.int (n : Nat)), some (boundsD bs), x6, x7, none, none, none, none, none, none, none] ∧ bs.length = i ∧ bsI cl top bs ∧ DrS p r c (m + 2 + 11 * i) M M4) ?step ?fin _ _ ⟨[], _, _, rfl, rfl, ⟨fun b hb => (List.not_mem_nil hb).elim, fun b hb => (List.not_mem_nil hb).elim, fun b hb => (List.not_mem_nil hb).elim, fun b hb => by cases hb⟩, s2⟩
    case fin =>
      rintro ρ M4 ⟨bs, x6, x7, rfl, h1, h2, s4⟩
      exact mk _ _ ⟨bs, _, _, rfl, h1, h2, s4.le (by omega)⟩
    case step =>
      rintro J mkJ i ρ M4 hi ⟨bs, x6, x7, rfl, h1, h2, s4⟩
      simp only [e_gN, List.set_cons_succ, List.set_cons_zero]
      refine seq_cut (fun ρ M5 => ∃ b : List Bar, ρ = [some (.ref p), some (.int (cl : Nat)), some (.int st), some (.int top), some (.int (n : Nat)), some (boundsD bs), some (.int (i : Nat)), some (barsD b), none, none, none, none, none, none, none] ∧ b.length ≤ 3 ∧ okBs cl 2 b ∧ (∀ x ∈ b, x.2.2 ≤ top) ∧ DrS p r c (m + 2 + 11 * (i + 1)) M M5) (fun I' mk' => ?_) ?_
      · walk_at "mp"
        rw [sgs2]
        obtain ⟨m4, hm4, p4⟩ := s4.1
        refine ⟨by omega, bars_at p4 (by omega) hc (.inl rfl) ⟨ht0, ht3⟩ (by omega) (by omega) fun b k1 k2 k3 => ?_⟩
        exact mk' _ _ ⟨b, rfl, k1, k2, k3, (s4.ask p4).le (by omega)⟩
      rintro _ M5 ⟨b, rfl, k1, k2, k3, s5⟩
      refine seq_cut (fun ρ M6 => ∃ b : List Bar, ρ = [some (.ref p), some (.int (cl : Nat)), some (.int st), some (.int top), some (.int (n : Nat)), some (boundsD bs), some (.int (i : Nat)), some (barsD b), none, none, none, none, none, none, none] ∧ b.length ≤ 3 ∧ okBs cl 2 b ∧ (∀ x ∈ b, x.2.2 ≤ top) ∧ (i = 0 → ∀ x ∈ b, ¬ (x.2.1 = 0 ∧ x.2.2 = 0)) ∧ DrS p r c (m + 2 + 11 * (i + 1)) M M6) (fun I' mk' => ?_) ?_
      · walk_at "mp"
        refine ⟨fun hi0 => ?_, fun hi0 => mk' _ _ ⟨b, rfl, k1, k2, k3, fun z => by omega, s5⟩⟩
        show iSeqF (.tup (b.map barD)) M5 _
        rw [iseq_tup]
        refine lc_encf barD (fun x => !eqLt0 x) barD (fun M' => M' = M5) b (fun J' mkJ' x hx M' e => ?_) (by omega) (fun M' e => ?_) _ rfl
        · subst e
          refine ⟨trivial, ?_⟩
          unfold barD
          walk_at "mp"
          show 2 ≤ sizeLine ∧ (rEqn true).f (.tup [.str (sg x.2.1), .int x.2.2]) (.tup [.str (Str.ofString "<"), .int 0]) M' _
          rw [e_rEqn_tup]
          exact ⟨by omega, MP.nb_pl _ rfl, MP.nb_pl _ rfl, Nat.le_of_ble_eq_true rfl, _, rfl, by rw [Bool.true_xor]; rfl, fun _ => mkJ' _ rfl, fun _ => mkJ' _ rfl⟩
        · subst e
          refine ⟨trivial, fun q hq => ?_⟩
          rw [items_lst mupd_same]
          refine mk' _ _ ⟨b.filter fun x => !eqLt0 x, rfl, Nat.le_trans (List.length_filter_le _ _) k1, fun x hx => k2 x (List.mem_filter.mp hx).1, fun x hx => k3 x (List.mem_filter.mp hx).1, fun _ x hx => eqLt0_no (by simpa using (List.mem_filter.mp hx).2), s5.sub (Sub.new hq)⟩
      rintro _ M6 ⟨b, rfl, k1, k2, k3, k4, s6⟩
      have fs : J (i + 1) [some (.ref p), some (.int (cl : Nat)), some (.int st), some (.int top), some (.int (n : Nat)), some (.tup (bs.map barsD ++ [barsD b])), some (.int (i : Nat)), some (barsD b), none, none, none, none, none, none, none] M6 := mkJ _ _ _ ⟨bs ++ [b], _, _, by unfold boundsD; rw [List.map_append]; rfl, by rw [List.length_append, h1]; rfl, h2.add k2 k1 k3 (fun z => k4 (by omega)), s6⟩
      unfold boundsD
      walk_at "mp"
      exact ⟨by omega, by rw [List.length_map]; omega, fs⟩
  rintro _ M4 ⟨bs, x6, x7, rfl, hbl, hbs, s4⟩
  refine seq_cut (fun ρ M5 => ∃ f, ρ = [some (.ref p), some (.int (cl : Nat)), some (.int st), some (.int top), some (.int (n : Nat)), some (boundsD bs), x6, x7, some (.ref f), none, none, none, none, none, none] ∧ M f = none ∧ M5 f = some (.lst []) ∧ DrS p r c (m + 46) M M5) (fun I mk => ?_) ?_
  · walk_at "mp"
    refine ⟨by omega, fun f hf => ?_⟩
    have hfM : M f = none := by
      cases e : M f with
      | none => rfl
      | some o =>
        by_cases z : f = p
        · obtain ⟨k, _, hk⟩ := s4.1
          rw [z, hk] at hf; cases hf
        · rw [s4.2 f o z e] at hf; cases hf
    exact mk _ _ ⟨f, rfl, hfM, mupd_same, s4.upd hfM hpn⟩
  rintro _ M5 ⟨f, rfl, hf, h5, s5⟩
  have nfp : f ≠ p := fun z => hpn (by rw [← z]; exact hf)
  -- the edges
  refine seq_cut (fun ρ M6 => ∃ (es : List Edge) (x6 x9 x10 x11 : Option D), ρ = [some (.ref p), some (.int (cl : Nat)), some (.int st), some (.int top), some (.int (n : Nat)), some (boundsD bs), x6, x7, some (.ref f), x9, x10, x11, none, none, none] ∧ M6 f = some (.lst (es.map edgeD)) ∧ (es.length ≤ 8 ∧ 0 < es.length) ∧ (∀ e ∈ es, edI cl n top e) ∧ DrS p r c (m + 200) M M6) (fun I mk => ?_) ?_
  · walk_at "mp"
    obtain ⟨m5, hm5, p5⟩ := s5.1
    rw [draw_at p5]
    refine ⟨cmul_l ⟨by decide, by decide⟩, by omega, by omega, fun d hd0 hd1 => ⟨_, rfl, by omega, by omega, ?_⟩⟩
    obtain ⟨d, rfl⟩ := Int.eq_ofNat_of_zero_le hd0
    have s5' : DrS p r c (m + 47) M (mupd M5 p (.pool r c (m5 + 1))) := (s5.ask p5).le (by omega)
    have h5' : (mupd M5 p (.pool r c (m5 + 1))) f = some (.lst []) := by rw [mupd_ne nfp]; exact h5
    generalize mupd M5 p (.pool r c (m5 + 1)) = M5 at s5' h5'
    rw [show ((1 : Int) + ((d : Nat) : Int)) = ((1 + d : Nat) : Int) by omega]
    refine loop_r0 (fun i ρ M6 => ∃ (es : List Edge) (x6 x9 x10 x11 : Option D), ρ = [some (.ref p), some (.int (cl : Nat)), some (.int st), some (.int top), some (.int (n : Nat)), some (boundsD bs), x6, x7, some (.ref f), x9, x10, x11, none, none, none] ∧ M6 f = some (.lst (es.map edgeD)) ∧ (es.length ≤ 8 ∧ (0 < i → 0 < es.length)) ∧ (∀ e ∈ es, edI cl n top e) ∧ DrS p r c (m + 47 + 16 * i) M M6) ?step ?fin _ _ ⟨[], _, _, _, _, rfl, h5', ⟨Nat.zero_le _, fun h => absurd h (Nat.lt_irrefl _)⟩, (fun e he => (List.not_mem_nil he).elim), s5'⟩
    case fin =>
      rintro ρ M6 ⟨es, y6, x9, x10, x11, rfl, k1, k2, k3, s6⟩
      exact mk _ _ ⟨es, _, _, _, _, rfl, k1, ⟨k2.1, k2.2 (by omega)⟩, k3, s6.le (by omega)⟩
    case step =>
      rintro J mkJ i ρ M6 hi ⟨es, y6, x9, x10, x11, rfl, k1, ⟨k2, k20⟩, k3, s6⟩
      simp only [e_gN, List.set_cons_succ, List.set_cons_zero]
      have hi9 : i ≤ 8 := by omega
      refine seq_cut (fun ρ M7 => ∃ rs : List Int, ρ = [some (.ref p), some (.int (cl : Nat)), some (.int st), some (.int top), some (.int (n : Nat)), some (boundsD bs), y6, x7, some (.ref f), some (.int (i : Nat)), some (isD rs), x11, none, none, none] ∧ M7 f = some (.lst (es.map edgeD)) ∧ rs.length ≤ 2 ∧ okNs 0 (cl - 1) rs ∧ DrS p r c (m + 49 + 16 * i) M M7) (fun I' mk' => ?_) ?_
      · walk_at "mp"
        refine ⟨by omega, by omega, ?_⟩
        refine lc_inv (fun j acc M' => ∃ b : List Int, acc = b.map D.int ∧ b.length ≤ j ∧ okNs 0 (cl - 1) b ∧ M' f = some (.lst (es.map edgeD)) ∧ DrS p r c (m + 47 + 16 * i + j) M M') _ ?step5 ?fin5 _ ⟨[], rfl, Nat.le_refl _, (fun v hv => (List.not_mem_nil hv).elim), k1, s6⟩
        case step5 =>
          rintro J5 j y hy acc M' ⟨b, rfl, hl, hb, hM', sM'⟩ mkJ5
          refine ⟨trivial, ?_⟩
          obtain ⟨hj, rfl⟩ := rng_int hy
          obtain ⟨k, hk', pk⟩ := sM'.1
          walk_at "mp"
          rw [draw_at pk]
          refine ⟨by omega, by decide, fun u hu0 hu1 => ?_⟩
          have sM2 : DrS p r c (m + 47 + 16 * i + (j + 1)) M (mupd M' p (.pool r c (k + 1))) := (sM'.ask pk).le (by omega)
          have hM2 : (mupd M' p (.pool r c (k + 1))) f = some (.lst (es.map edgeD)) := by rw [mupd_ne nfp]; exact hM'
          walk_at "mp"
          refine ⟨fun _ => ⟨by rw [List.length_map]; omega, mkJ5 _ _ ⟨b ++ [((j : Nat) : Int)], by rw [List.map_append]; rfl, by rw [List.length_append, List.length_singleton]; omega, fun v hv => ?_, hM2, sM2⟩⟩, fun _ => mkJ5 _ _ ⟨b, rfl, by omega, hb, hM2, sM2⟩⟩
          rcases List.mem_append.mp hv with hv | hv
          · exact hb v hv
          · rw [List.mem_singleton.mp hv]; omega
        case fin5 =>
          rintro acc M' ⟨b, rfl, hl, hb, hM', sM'⟩
          refine ⟨trivial, fun q hq => ?_⟩
          have hl2 : b.length ≤ 2 := by
            have : (rngD 0 (((cl : Nat) : Int)).toNat).length = cl := by simp [rngD]
            omega
          rw [items_lst mupd_same]
          exact mk' _ _ ⟨b, rfl, (Sub.new hq) _ _ hM', hl2, hb, (sM'.sub (Sub.new hq)).le (by simp [rngD]; omega)⟩
      rintro _ M7 ⟨rs, rfl, k7, hr1, hr2, s7⟩
      refine seq_cut (fun ρ M8 => ∃ e : Edge, ρ = [some (.ref p), some (.int (cl : Nat)), some (.int st), some (.int top), some (.int (n : Nat)), some (boundsD bs), y6, x7, some (.ref f), some (.int (i : Nat)), some (isD rs), some (edgeD e), none, none, none] ∧ edI cl n top e ∧ M8 f = some (.lst (es.map edgeD)) ∧ DrS p r c (m + 63 + 16 * i) M M8) (fun I' mk' => ?_) ?_
      · obtain ⟨m7, hm7, p7⟩ := s7.1
        walk_at "mp"
        rw [draw_at p7]
        refine ⟨by omega, by omega, fun a ha0 ha1 => ?_⟩
        rw [draw_at mupd_same]
        refine ⟨by omega, by omega, fun dd hdd0 hdd1 => ⟨by omega, ?_⟩⟩
        rw [sgs4]
        refine bars_at mupd_same (by omega) hc (.inr rfl) ⟨ht0, ht3⟩ (by omega) (by omega) fun b q1 q2 q3 => ?_
        rw [draw_at mupd_same]
        refine ⟨by omega, by omega, fun g hg0 hg1 => ⟨by omega, ?_⟩⟩
        refine mk' _ _ ⟨⟨a, dd, b, rs, g⟩, rfl, ⟨⟨⟨ha0, by show a ≤ n - 1; omega⟩, ⟨hdd0, by show dd ≤ 2; omega⟩, q2, hr2, ⟨hg0, by show g ≤ n - 1; omega⟩⟩, q1, hr1, q3⟩, by rw [mupd_ne nfp, mupd_ne nfp, mupd_ne nfp, mupd_ne nfp]; exact k7, ((((s7.ask p7).ask mupd_same).ask mupd_same).ask mupd_same).le (by omega)⟩
      rintro _ M8 ⟨e, rfl, he, k8, s8⟩
      refine seq_cut (fun ρ M9 => ∃ e : Edge, ρ = [some (.ref p), some (.int (cl : Nat)), some (.int st), some (.int top), some (.int (n : Nat)), some (boundsD bs), y6, x7, some (.ref f), some (.int (i : Nat)), some (isD rs), some (edgeD e), none, none, none] ∧ edI cl n top e ∧ M9 = M8) (fun I' mk' => ?_) ?_
      · unfold edgeD
        walk_at "mp"
        refine ⟨fun _ => ⟨by omega, ?_⟩, fun _ => mk' _ _ ⟨e, rfl, he, rfl⟩⟩
        show MP.rAdd.f (.tup [.int 0]) (.tup (MP.cutD [D.int e.s, D.int e.d, barsD e.bars, isD e.rs, D.int e.g] (some 1) (some 4))) M8 _
        rw [cut14]
        have fs : I' [some (.ref p), some (.int (cl : Nat)), some (.int st), some (.int top), some (.int (n : Nat)), some (boundsD bs), y6, x7, some (.ref f), some (.int (i : Nat)), some (isD rs), some (.tup [.int 0, .int e.d, barsD e.bars, isD e.rs, .int ((n : Nat) - 1)]), none, none, none] M8 := mk' _ _ ⟨⟨0, e.d, e.bars, e.rs, (n : Nat) - 1⟩, rfl, ⟨⟨⟨Int.le_refl _, by show 0 ≤ (n : Int) - 1; omega⟩, he.ok.d, he.ok.bars, he.ok.rs, ⟨by show 0 ≤ (n : Int) - 1; omega, Int.le_refl _⟩⟩, he.few, he.rs, he.top⟩, rfl⟩
        walk_at "mp"
        exact ⟨by omega, by omega, by omega, fs⟩
      rintro _ M9 ⟨e, rfl, he, rfl⟩
      walk_at "mp"
      show (rInn true).f (edgeD e) (.ref f) M9 _
      rw [in_lst k8]
      have no : 0 < es.length → J (i + 1) [some (.ref p), some (.int (cl : Nat)), some (.int st), some (.int top), some (.int (n : Nat)), some (boundsD bs), y6, x7, some (.ref f), some (.int (i : Nat)), some (isD rs), some (edgeD e), none, none, none] M9 := fun hpos => mkJ _ _ _ ⟨es, _, _, _, _, rfl, k8, ⟨k2, fun _ => hpos⟩, k3, s8.le (by omega)⟩
      refine ⟨nbs_pls _ (nbs_map edgeD edge_nb es), MP.nb_pl _ (edge_nb e), Nat.le_trans (Nat.min_le_right _ _) (Nat.le_trans (edge_dep e) (by decide)), _, rfl, fun _ => ?_, fun h => no ?_⟩
      rotate_left
      · cases es with
        | nil => cases h
        | cons z zs => exact Nat.succ_pos _
      rw [len_lst k8, ty_lst k8, List.length_map]
      refine ⟨fun h => ⟨trivial, _, k8, by rw [List.length_map]; omega, mkJ _ _ _ ⟨es ++ [e], _, _, _, _, rfl, by rw [mupd_same, List.map_append]; rfl, ⟨by rw [List.length_append, List.length_singleton]; omega, fun _ => by rw [List.length_append, List.length_singleton]; omega⟩, fun y hy => ?_, (s8.upd hf hpn).le (by omega)⟩⟩, fun h => no (by omega)⟩
      rcases List.mem_append.mp hy with hy | hy
      · exact k3 y hy
      · rw [List.mem_singleton.mp hy]; exact he
  rintro _ M6 ⟨es, y6, x9, x10, x11, rfl, k6, ⟨hes1, hes0⟩, hes2, s6⟩
  refine seq_cut (fun ρ M7 => ∃ fs : List Int, ρ = [some (.ref p), some (.int (cl : Nat)), some (.int st), some (.int top), some (.int (n : Nat)), some (boundsD bs), y6, x7, some (.ref f), x9, x10, x11, some (isD fs), none, none] ∧ M7 f = some (.lst (es.map edgeD)) ∧ fs.length ≤ 4 ∧ okNs 0 (n - 1) fs ∧ DrS p r c (m + 204) M M7) (fun I mk => ?_) ?_
  · walk_at "mp"
    refine ⟨by omega, by omega, ?_⟩
    refine lc_inv (fun j acc M' => ∃ b : List Int, acc = b.map D.int ∧ b.length ≤ j ∧ okNs 0 (n - 1) b ∧ M' f = some (.lst (es.map edgeD)) ∧ DrS p r c (m + 200 + j) M M') _ ?step5 ?fin5 _ ⟨[], rfl, Nat.le_refl _, (fun v hv => (List.not_mem_nil hv).elim), k6, s6⟩
    case step5 =>
      rintro J5 j y hy acc M' ⟨b, rfl, hl, hb, hM', sM'⟩ mkJ5
      refine ⟨trivial, ?_⟩
      obtain ⟨hj, rfl⟩ := rng_int hy
      obtain ⟨k, hk', pk⟩ := sM'.1
      walk_at "mp"
      rw [draw_at pk]
      refine ⟨by omega, by decide, fun u hu0 hu1 => ?_⟩
      have sM2 : DrS p r c (m + 200 + (j + 1)) M (mupd M' p (.pool r c (k + 1))) := (sM'.ask pk).le (by omega)
      have hM2 : (mupd M' p (.pool r c (k + 1))) f = some (.lst (es.map edgeD)) := by rw [mupd_ne nfp]; exact hM'
      walk_at "mp"
      refine ⟨fun _ => ⟨by rw [List.length_map]; omega, mkJ5 _ _ ⟨b ++ [((j : Nat) : Int)], by rw [List.map_append]; rfl, by rw [List.length_append, List.length_singleton]; omega, fun v hv => ?_, hM2, sM2⟩⟩, fun _ => mkJ5 _ _ ⟨b, rfl, by omega, hb, hM2, sM2⟩⟩
      rcases List.mem_append.mp hv with hv | hv
      · exact hb v hv
      · rw [List.mem_singleton.mp hv]; omega
    case fin5 =>
      rintro acc M' ⟨b, rfl, hl, hb, hM', sM'⟩
      refine ⟨trivial, fun q hq => ?_⟩
      have hl2 : b.length ≤ 4 := by
        have : (rngD 0 (((n : Nat) : Int)).toNat).length = n := by simp [rngD]
        omega
      rw [items_lst mupd_same]
      exact mk _ _ ⟨b, rfl, (Sub.new hq) _ _ hM', hl2, hb, (sM'.sub (Sub.new hq)).le (by simp [rngD]; omega)⟩
  rintro _ M7 ⟨fs0, rfl, k7, hf1, hf2, s7⟩
  refine seq_cut (fun ρ M8 => ∃ fs : List Int, ρ = [some (.ref p), some (.int (cl : Nat)), some (.int st), some (.int top), some (.int (n : Nat)), some (boundsD bs), y6, x7, some (.ref f), x9, x10, x11, some (isD fs), none, none] ∧ M8 f = some (.lst (es.map edgeD)) ∧ fs.length ≤ 4 ∧ okNs 0 (n - 1) fs ∧ DrS p r c (m + 205) M M8) (fun I mk => ?_) ?_
  · obtain ⟨m7, hm7, p7⟩ := s7.1
    walk_at "mp"
    rw [draw_at p7]
    refine ⟨by omega, by omega, fun d hd0 hd1 => ?_⟩
    have s8 : DrS p r c (m + 205) M (mupd M7 p (.pool r c (m7 + 1))) := (s7.ask p7).le (by omega)
    have k8 : (mupd M7 p (.pool r c (m7 + 1))) f = some (.lst (es.map edgeD)) := by rw [mupd_ne nfp]; exact k7
    walk_at "mp"
    refine ⟨fun _ => ?_, fun _ => mk _ _ ⟨fs0, rfl, k8, hf1, hf2, s8⟩⟩
    refine ⟨by omega, mk _ _ ⟨[((n : Nat) : Int) - 1], rfl, k8, Nat.le_of_ble_eq_true rfl, fun v hv => ?_, s8⟩⟩
    rw [List.mem_singleton.mp hv]; omega
  rintro _ M8 ⟨fs, rfl, k8, hf1, hf2, s8⟩
  walk_at "mp"
  obtain ⟨L2, e1, e2⟩ := sort_perm edgeD es
  refine ⟨_, k8, fun d hd d' hd' => ?_, .inl fun d hd => ?_, fun x hx => ?_, fun q hq => ?_⟩
  · simp only [List.map_map, List.mem_map] at hd hd'
    obtain ⟨x, _, rfl⟩ := hd
    obtain ⟨y, _, rfl⟩ := hd'
    exact edge_alike x y
  · simp only [List.map_map, List.mem_map] at hd
    obtain ⟨x, _, rfl⟩ := hd
    exact ⟨_, _, rfl⟩
  · obtain ⟨y, _, rfl⟩ := List.mem_map.mp hx
    exact ⟨MP.nb_pl _ (edge_nb y), Nat.le_trans (edge_dep y) (by decide)⟩
  · rw [items_lst mupd_same, e1]
    have el : L2.length = es.length := e2.length_eq
    have em : ∀ e ∈ L2, edI cl n top e := fun e he => hes2 e (e2.mem_iff.mp he)
    refine ⟨by omega, mkR ⟨cl, bs, L2, fs⟩ _ rfl ⟨⟨by show (1 : Int) ≤ cl ∧ (cl : Int) ≤ 2; omega, by show 1 ≤ bs.length ∧ bs.length ≤ 4; omega, hbs.ok, by show L2.length ≤ 8; omega, fun e he => by show okE cl bs.length e; rw [hbl]; exact (em e he).ok, by show okNs 0 (bs.length - 1) fs; rw [hbl]; exact hf2⟩, ⟨hbs.few, fun e he => ⟨(em e he).few, (em e he).rs⟩⟩, hf1, ⟨hbs.top, fun e he => (em e he).top⟩, hbs.first⟩ (by show 0 < L2.length; omega) ((s8.sub (Sub.new hq)).le (by omega))⟩
end PL

/-! zip of a list and a tuple that is bound to a name, then gone over in a comprehension at once -/
namespace MP
open PySem PySem.Spec PyProof.Rows L2
/-! ### cells that stand just as they are -/
def Cel (c : Addr) (o : Obj) : HO := .ext fun h => h.get? c = some o
abbrev Cels := List (Addr × Obj)
def laid (H : Hp) : Cels → Hp
  | [] => H
  | p :: r => upd (laid H r) p.1 (Cel p.1 p.2)
theorem laid_out {H : Hp} {b : Addr} : ∀ {cs : Cels}, (∀ p ∈ cs, b ≠ p.1) → laid H cs b = H b
  | [], _ => rfl
  | p :: r, h => by
    rw [laid, upd_ne (h p List.mem_cons_self)]
    exact laid_out fun q hq => h q (List.mem_cons_of_mem _ hq)
theorem laid_some {H : Hp} {b : Addr} {u : HO} : ∀ {cs : Cels}, laid H cs b = some u → (∃ p ∈ cs, b = p.1 ∧ u = Cel p.1 p.2) ∨ H b = some u
  | [], h => .inr h
  | p :: r, h => by
    by_cases e : b = p.1
    · rw [laid, e, upd_same] at h
      cases h
      exact .inl ⟨p, List.mem_cons_self, e, rfl⟩
    · rw [laid, upd_ne e] at h
      rcases laid_some h with ⟨q, hq, z⟩ | z
      · exact .inl ⟨q, List.mem_cons_of_mem _ hq, z⟩
      · exact .inr z
section
variable {X : Cx} {pins : List (Addr × Obj)} {σ : L2.St} {H : Hp} {s : Shared}
theorem inv_laid {cs : Cels} {h' : Heap} {t' : Nat} (I : Inv X pins σ H s) (k : ∀ b o, s.heap.get? b = some o → h'.get? b = some o) (hc : ∀ p ∈ cs, s.heap.objs.size ≤ p.1 ∧ h'.get? p.1 = some p.2) : Inv X pins σ (laid H cs) { s with heap := h', toks := t' } := by
  have new : ∀ p ∈ cs, H p.1 = none := fun p hp => I.hok.fresh (hc p hp).1
  have old : ∀ b u, H b = some u → laid H cs b = some u := fun b u e => by
    rw [laid_out fun p hp z => by rw [z, new p hp] at e; cases e]; exact e
  have lies : ∀ b o, s.heap.get? b = some o → laid H cs b = H b := fun b o e => laid_out fun p hp z => by
    have := Heap.lt_size e
    have := (hc p hp).1
    rw [z] at *
    exact absurd this (Nat.not_le_of_lt ‹_›)
  refine I.un ⟨fun b o e _ _ _ => k b o e, fun b o e _ _ _ => ⟨o.slots, k b o e⟩, fun b o e n _ => by rw [lies b o e]; exact n, fun b o e _ => ⟨o, k b o e⟩, fun b xs e => old b _ e, fun b o u e => old b _ e, fun b ps e => ⟨#[], by rw [old b _ e]; simp⟩⟩ fun b u e => ?_
  rcases laid_some e with ⟨p, hp, rfl, rfl⟩ | e
  · exact ⟨(hc p hp).2, ⟨_, (hc p hp).2⟩, fun h1 h2 z w => w _ z⟩
  · exact (I.hok b u e).stay (fun c v _ q => k c v q) (fun c q => old c _ q) fun c xs q => old c _ q
theorem inv_undo : ∀ {cs : Cels}, (∀ p ∈ cs, H p.1 = none) → (cs.map (·.1)).Nodup → Inv X pins σ (laid H cs) s → Inv X pins σ H s ∧ (∀ p ∈ cs, s.heap.get? p.1 = some p.2) ∧ ∀ p ∈ cs, X.s_0.heap.objs.size ≤ p.1 → FpOk X pins H p.1
  | [], _, _, I => ⟨I, fun _ h => absurd h List.not_mem_nil, fun _ h => absurd h List.not_mem_nil⟩
  | p :: r, hn, nd, I => by
    rw [List.map_cons, List.nodup_cons] at nd
    have hp : laid H r p.1 = none := by
      rw [laid_out fun q hq z => nd.1 (List.mem_map.mpr ⟨q, hq, z.symm⟩)]
      exact hn p List.mem_cons_self
    have at_ : laid H (p :: r) p.1 = some (Cel p.1 p.2) := upd_same
    have J := ItX.inv_drop I at_
    rw [laid, ItX.dropH_upd hp] at J
    obtain ⟨J1, J2, J3⟩ := inv_undo (fun q hq => hn q (List.mem_cons_of_mem _ hq)) nd.2 J
    refine ⟨J1, fun q hq => ?_, fun q hq hs => ?_⟩
    · rcases List.mem_cons.mp hq with rfl | hq
      · exact (I.hok _ _ at_).1
      · exact J2 q hq
    · rcases List.mem_cons.mp hq with rfl | hq
      · exact ⟨hn _ List.mem_cons_self, (ItX.inv_fp I at_ hs).2⟩
      · exact J3 q hq hs
end
/-! ### a list beside a tuple -/
def ItzM (K : PySem.W.Frag) (a b : Addr) (n m : Nat) : It :=
  ⟨fun i H => ∃ (xs ys : List V) (x y : V), (SqL K H a xs ∧ xs[i]? = some x) ∧ (SqT K H b ys ∧ ys[i]? = some y) ∧ xs.length = n ∧ ys.length = m,
    fun i H v H' => ∃ T x y, v = .ref T ∧ H T = none ∧ H' = upd H T (.tup [x, y]) ∧ (∀ xs, SqL K H a xs → xs[i]? = some x) ∧ ∀ ys, SqT K H b ys → ys[i]? = some y,
    fun i H => ∃ xs ys : List V, SqL K H a xs ∧ SqT K H b ys ∧ xs.length = n ∧ ys.length = m ∧ (n ≤ i ∨ m ≤ i)⟩
def Zst (a b N n m : Nat) (i : Nat) (h : Heap) : Prop := (i ≤ n ∧ i ≤ m) ∧ IsZip h (N + 4) (N + 2) (N + 3) .none ∧ IsTupOf2 h (N + 2) (.ref N) (.ref (N + 1)) ∧ (∃ x y, IsTupOf2 h (N + 3) x y) ∧ h.IsListIter N a i ∧ h.IsTupleIter (N + 1) b i
abbrev zfp (N : Nat) : List Addr := [N, N + 1, N + 2, N + 3, N + 4]
theorem z_ne (N i j : Nat) (h : i ≠ j) : (N + i : Nat) ≠ N + j := by omega
theorem z_out (N k c i : Nat) (hk : k ≠ i) (hc : c < N) : (N + k : Nat) ∉ ([N + i, c] : List Nat) := by
  intro h
  rcases List.mem_cons.mp h with h | h
  · omega
  · have := List.mem_singleton.mp h
    omega
theorem zsep {N a b : Nat} (ha : a < N) (hb : b < N) : ZipSep2 (N + 4) (N + 2) (N + 3) N (N + 1) [N, a] [N + 1, b] where
  TIz := z_ne N 2 4 (by decide)
  TOz := z_ne N 3 4 (by decide)
  TITO := z_ne N 2 3 (by decide)
  TIi1 := z_ne N 2 0 (by decide)
  mem1 := List.mem_cons_self
  zf1 := z_out N 4 a 0 (by decide) ha
  Tf1 := z_out N 3 a 0 (by decide) ha
  TIi2 := z_ne N 2 1 (by decide)
  mem2 := List.mem_cons_self
  zf2 := z_out N 4 b 1 (by decide) hb
  Tf2 := z_out N 3 b 1 (by decide) hb
  sep1_2 := z_out N 0 b 1 (by decide) hb
  sep2_1 := z_out N 1 a 0 (by decide) ha
theorem zmem {N c : Nat} (h : c ∈ zfp N) : c = N ∨ c = N + 1 ∨ c = N + 2 ∨ c = N + 3 ∨ c = N + 4 := by simpa using h
theorem zlt {N c M : Nat} (h : c ∈ zfp N) (hl : N + 4 < M) : c < M := by
  rcases zmem h with z | z | z | z | z <;> omega
theorem z_in (N k : Nat) (h : k < 5) : (N + k : Nat) ∈ zfp N := by
  have : k = 0 ∨ k = 1 ∨ k = 2 ∨ k = 3 ∨ k = 4 := by omega
  rcases this with rfl | rfl | rfl | rfl | rfl <;> simp
theorem turn_zipM {P : Program} {w : World} {K : PySem.W.Frag} {elts : List Expr} {kk : Nat} {tpos : Pos} {a b N n m : Nat} (la : a < N) (lb : b < N) : Turn P w K (.Tuple elts kk tpos) (ItzM K a b n m) (zfp N) (N + 4) (Zst a b N n m) := by
  have S := zsep la lb
  have outz : ∀ c : Nat, c ∉ zfp N → c ≠ N + 4 ∧ c ≠ N + 3 ∧ c ≠ N ∧ c ≠ N + 1 := fun c hc => ⟨fun z => hc (z ▸ z_in N 4 (by decide)), fun z => hc (z ▸ z_in N 3 (by decide)), fun z => hc (z ▸ z_in N 0 (by decide)), fun z => hc (z ▸ z_in N 1 (by decide))⟩
  refine ⟨z_in N 4 (by decide), fun i h st c hc => ?_, fun i h h' st k => ?_, ?_, ?_, fun A i s Q E st q => wpAny_pyIter_zip st.2.1 q⟩
  · obtain ⟨_, e1, e2, ⟨x, y, e3⟩, ⟨o1, e4, _, d4⟩, ⟨o2, e5, _, d5⟩⟩ := st
    rcases zmem hc with rfl | rfl | rfl | rfl | rfl
    · exact ⟨o1, e4, fun v z => by rw [d4] at z; cases z⟩
    · exact ⟨o2, e5, fun v z => by rw [d5] at z; cases z⟩
    · exact ⟨_, e2, fun v z => nomatch z⟩
    · exact ⟨_, e3, fun v z => nomatch z⟩
    · exact ⟨_, e1, fun v z => nomatch z⟩
  · obtain ⟨e0, e1, e2, ⟨x, y, e3⟩, e4, e5⟩ := st
    exact ⟨e0, k _ (z_in N 4 (by decide)) _ e1, k _ (z_in N 2 (by decide)) _ e2, ⟨x, y, k _ (z_in N 3 (by decide)) _ e3⟩, e4.at fun o z => k _ (z_in N 0 (by decide)) o z, e5.at fun o z => k _ (z_in N 1 (by decide)) o z⟩
  · rintro X rfl rfl rfl calm i pins s σ H E I hf ⟨e0, e1, e2, ⟨p, q, e3⟩, e4, e5⟩ ⟨xs, ys, x, y, ⟨qx, hx⟩, ⟨qy, hy⟩, ln, lm⟩
    obtain ⟨vs, rv, pl, _⟩ := I.list qx
    obtain ⟨us, ru, pt, _⟩ := I.tuple qy
    obtain ⟨v, hv, ov⟩ := rv.get hx
    obtain ⟨u, hu, ou⟩ := ru.get hy
    have hd : X.A.in1.handled = none := I.ok.hd calm
    have D1 := Draws.list (prog := X.prog) (w := X.w) hd N a (Nat.ne_of_lt la) vs.toArray
    have D2 := Draws.tuple (prog := X.prog) (w := X.w) hd (N + 1) b (Nat.ne_of_lt (Nat.lt_succ_of_lt lb)) us.toArray
    have n1 : i < vs.toArray.size := by simpa using (List.getElem?_eq_some_iff.mp hv).1
    have n2 : i < us.toArray.size := by simpa using (List.getElem?_eq_some_iff.mp hu).1
    have zl := Heap.lt_size e1
    refine wpAny_pyNext_zipD2_item S D1 D2 e1 e2 e3 ⟨e4, pl.isList⟩ ⟨e5, pt⟩ n1 n2 fun w1 w2 h1 tk y1 y2 f1 f3 f4 f5 ft fs fk => ?_
    have ew1 : w1 = v := by
      have z : vs.toArray[i]? = some w1 := y1
      rw [List.getElem?_toArray, hv] at z
      exact (Option.some.inj z).symm
    have ew2 : w2 = u := by
      have z : us.toArray[i]? = some w2 := y2
      rw [List.getElem?_toArray, hu] at z
      exact (Option.some.inj z).symm
    subst ew1 ew2
    refine ⟨_, rfl, wpAny_letOwnedTupleGo_zip (s := { s with heap := h1, toks := tk }) f1 fun h2 g1 sb => ?_⟩
    have gt : h2.get? s.heap.objs.size = some { cls := .type "tuple", data := .seq #[w1, w2] } := (sb.2 _ (Nat.ne_of_gt zl)).trans ft
    have J : Inv X pins σ (upd H s.heap.objs.size (.tup [x, y])) { s with heap := h2, toks := tk } :=
      I.turnedNew (ch := zfp N) (fun c o hc z => (sb.2 c (outz c hc).1).trans (fk c o (outz c hc).1 (outz c hc).2.1 (outz c hc).2.2.1 (outz c hc).2.2.2 z)) hf (Nat.le_refl _) ⟨by show 2 ≤ sizeLine; decide, [w1, w2], .cons ov (.cons ou .nil), ⟨_, gt, rfl, _, rfl⟩⟩
    have e2' := (sb.2 _ (z_ne N 2 4 (by decide))).trans (fk _ _ (z_ne N 2 4 (by decide)) (z_ne N 2 3 (by decide)) (z_ne N 2 0 (by decide)) (z_ne N 2 1 (by decide)) e2)
    refine ⟨.ref s.heap.objs.size, _, J, rfl, ⟨_, x, y, rfl, I.hok.fresh (Nat.le_refl _), rfl, fun l hl => by rw [I.list_inj hl qx]; exact hx, fun l hl => by rw [I.tuple_inj hl qy]; exact hy⟩, ⟨⟨by have := (List.getElem?_eq_some_iff.mp hx).1; omega, by have := (List.getElem?_eq_some_iff.mp hy).1; omega⟩, g1, e2', ⟨w1, w2, (sb.2 _ (z_ne N 3 4 (by decide))).trans f3⟩, f4.1.at fun o z => (sb.2 _ (z_ne N 0 4 (by decide))).trans z, f5.1.at fun o z => (sb.2 _ (z_ne N 1 4 (by decide))).trans z⟩, fun c hc => ?_⟩
    have lt : c < s.heap.objs.size := zlt hc zl
    rw [upd_ne (Nat.ne_of_lt lt)]
    exact (hf c hc).1
  · rintro X rfl rfl rfl calm i pins s σ H E I hf ⟨⟨i1, i2⟩, e1, e2, ⟨p, q, e3⟩, e4, e5⟩ ⟨xs, ys, qx, qy, l1, l2, hend⟩
    obtain ⟨vs, rv, pl, _⟩ := I.list qx
    obtain ⟨us, ru, pt, _⟩ := I.tuple qy
    have n1 := rv.length
    have n2 := ru.length
    have hd : X.A.in1.handled = none := I.ok.hd calm
    have D1 := Draws.list (prog := X.prog) (w := X.w) hd N a (Nat.ne_of_lt la) vs.toArray
    have D2 := Draws.tuple (prog := X.prog) (w := X.w) hd (N + 1) b (Nat.ne_of_lt (Nat.lt_succ_of_lt lb)) us.toArray
    refine wpAny_pyNext_zipD2_end S D1 D2 e1 e2 e3 ⟨e4, pl.isList⟩ ⟨e5, pt⟩ (by simp; omega) (by simp; omega) (by simp; omega) fun h1 tk fk => ⟨rfl, ?_⟩
    exact I.turnedL (ch := zfp N) (fun c o hc z => fk c o (outz c hc).1 (outz c hc).2.1 (outz c hc).2.2.1 (outz c hc).2.2.2 z) hf
/-! ### the call, the name that is gone over -/
def zcs (N a b : Nat) : Cels := [(N, { cls := .type "list_iterator", data := .fields #[.ref a, .int 0 0] }), (N + 1, { cls := .type "tuple_iterator", data := .fields #[.ref b, .int 0 0] }),
  (N + 2, { cls := .type "tuple", data := .seq #[.ref N, .ref (N + 1)] }), (N + 3, { cls := .type "tuple", data := .seq #[.none, .none] }), (N + 4, { cls := .type "zip", data := .fields #[.none, .bool false, .bool false, .ref (N + 2), .ref (N + 3)] })]
theorem zcs_nd (N a b : Nat) : ((zcs N a b).map (·.1)).Nodup := by
  show ([N, N + 1, N + 2, N + 3, N + 4] : List Nat).Nodup
  simp
theorem zcs_ge {N a b : Nat} : ∀ p ∈ zcs N a b, N ≤ p.1 := fun p hp => by
  unfold zcs at hp
  simp only [List.mem_cons, List.not_mem_nil, or_false] at hp
  rcases hp with rfl | rfl | rfl | rfl | rfl
  · exact Nat.le_refl N
  · exact Nat.le_add_right N 1
  · exact Nat.le_add_right N 2
  · exact Nat.le_add_right N 3
  · exact Nat.le_add_right N 4
def tZipM (K : PySem.W.Frag) (n : Nat) (ta : TA) : TE := fun σ H Q => ta σ H fun vs H1 => ∃ (a b : Nat) (xs ys : List V), vs = [.ref a, .ref b] ∧ SqL K H1 a xs ∧ SqT K H1 b ys ∧ ∀ N : Nat, n ≤ N → (∀ c : Nat, N ≤ c → H1 c = none) → a < N → b < N → Q (.ref (N + 4)) (laid H1 (zcs N a b))
def tZipN (K : PySem.W.Frag) (n k : Nat) : TI := fun σ H R => ∃ (N a b u v : Nat) (H0 : Hp), σ[k]? = some (some (.ref (N + 4))) ∧ H = laid H0 (zcs N a b) ∧ (∀ c : Nat, N ≤ c → H0 c = none) ∧ n ≤ N ∧ a < N ∧ b < N ∧ R (ItzM K a b u v) H0
section
variable {X : Cx} {e e2 : Expr} {ta : TA} {p pos : Pos}
theorem pe_zipM (hg : Gl X "zip") (hm : X.mg "zip" = none) (ha : PA X [e, e2] ta) (hs : starEach [e, e2] X.env = (false, eval e X.env) :: starEach [e2] X.env := by rfl) (hpl : (backTo pos (starEach [e2] X.env)).any (·.1) = false := by rfl) :
    PE X (.Call (.Name "zip" p) [e, e2] [] pos) (tZipM X.K X.s_0.heap.objs.size ta) := by
  constructor
  intro pins s σ H Q I h
  refine Call_ (ld_blt I hg hm PyProof.Rows.boot_zip (PyProof.Rows.callWith_type1 (thn (ha.run pos pins s σ H _ I h) fun us s1 ⟨vs, H1, I1, r1, a, b, xs, ys, ev, qx, qy, q⟩ => ?_) hs hpl))
  subst ev
  rcases r1 with _ | ⟨r, rr⟩
  rcases rr with _ | ⟨r', rr⟩
  cases rr
  cases r
  cases r'
  obtain ⟨its, _, p1, _⟩ := I1.list qx
  obtain ⟨itt, _, p2, _⟩ := I1.tuple qy
  have la := p1.lt
  have lb : b < s1.heap.objs.size := by
    obtain ⟨o, ho, _⟩ := id p2
    exact Heap.lt_size ho
  refine zip_begins2 (begins_list a its.toArray) (begins_tuple b itt.toArray) p1.isList p2 fun h' g5 g3 g4 g1 g2 _ k => ?_
  refine ⟨.ref (s1.heap.objs.size + 4), _, inv_laid (cs := zcs s1.heap.objs.size a b) (t' := s1.toks) I1 k fun c hc => ⟨zcs_ge c hc, ?_⟩, rfl, q _ I1.sz (fun c hc => I1.hok.fresh hc) la lb⟩
  unfold zcs at hc
  simp only [List.mem_cons, List.not_mem_nil, or_false] at hc
  rcases hc with rfl | rfl | rfl | rfl | rfl
  · exact g1
  · exact g2
  · exact g3
  · exact g4
  · exact g5
theorem pi_zipN {elts : List Expr} {kk k : Nat} {tpos : Pos} {x : Str} (hN : X.N[k]? = some x) (hv : Vis X.env.scope x) (hd : (x == ("__debug__" : Str)) = false := by decide) (hcd : (x == ("__classdict__" : Str)) = false := by decide) :
    PI X (.Tuple elts kk tpos) (.Name x p) (tZipN X.K X.s_0.heap.objs.size k) := by
  constructor
  rintro pins s σ H R I ⟨N, a, b, u, v, H0, hs, eH, fr, hn, la, lb, q⟩
  refine thn ((pe_var (pos := p) (i := k) hN hv hd hcd).run pins s σ H (fun v H1 => v = .ref (N + 4) ∧ H1 = H) I ⟨.ref (N + 4), hs, rfl, rfl⟩) fun w s1 ⟨y, H1, I1, r1, ev, e1⟩ => ?_
  subst ev
  rw [e1, eH] at I1
  cases r1
  obtain ⟨J, got, fp⟩ := inv_undo (fun c hc => fr _ (zcs_ge c hc)) (zcs_nd N a b) I1
  have m0 : ∀ i, ∀ h : i < (zcs N a b).length, (zcs N a b)[i] ∈ zcs N a b := fun i h => List.getElem_mem h
  have st : Zst a b N u v 0 s1.heap := ⟨⟨Nat.zero_le _, Nat.zero_le _⟩, got _ (m0 4 (show 4 < 5 by decide)), got _ (m0 2 (show 2 < 5 by decide)), ⟨_, _, got _ (m0 3 (show 3 < 5 by decide))⟩, ⟨_, got _ (m0 0 (show 0 < 5 by decide)), rfl, rfl⟩, ⟨_, got _ (m0 1 (show 1 < 5 by decide)), rfl, rfl⟩⟩
  refine wpAny_pyIter_zip st.2.1 ⟨N + 4, zfp N, _, _, H0, rfl, J, turn_zipM la lb, st, fun c hc => ?_, q⟩
  have hc' : ∃ p ∈ zcs N a b, p.1 = c := by
    have : (zcs N a b).map (·.1) = zfp N := rfl
    exact List.mem_map.mp (this ▸ hc)
  obtain ⟨pp, hp, rfl⟩ := hc'
  exact fp pp hp (Nat.le_trans hn (zcs_ge pp hp))
end
theorem itok_zipM {P : Program} {w : World} {K : PySem.W.Frag} {H : Hp} {a b : Addr} {ds es : List D} {n : Nat} {ys : List V} (hn : n = ds.length) (h : TupAt K H b ys) (r : RelDs K H es ys) : ItOk P w K (ItzM K a b n ys.length) (zipD ds es) (fun M => M a = some (.lst ds)) H := fun i H1 M1 k m1 st => by
  subst hn
  obtain ⟨xs, h1, r1⟩ := m1 a _ st
  have q1 : SqL K H1 a xs := .inl (.inl h1)
  have q2 := (h.keep k).sq
  have r2 := r.keep k
  have lx := r1.length
  have ly := r2.length
  refine ⟨fun hi => ⟨xs, ys, q1, q2, lx.symm, rfl, by rw [zipD_length] at hi; omega⟩, fun d hd => ?_⟩
  obtain ⟨x, y, hx, hy, rfl⟩ := zipD_get _ _ _ _ hd
  obtain ⟨v, hv, rv⟩ := r1.get hx
  obtain ⟨u, hu, ru⟩ := r2.get hy
  refine ⟨⟨xs, ys, v, u, ⟨q1, hv⟩, ⟨q2, hu⟩, lx.symm, rfl⟩, ?_⟩
  rintro z H' ⟨T, v', u', rfl, hT, rfl, g1, g2⟩
  have e1 := g1 xs q1
  have e2 := g2 ys q2
  rw [hv] at e1
  rw [hu] at e2
  cases e1
  cases e2
  exact new_tup m1 hT (.cons rv (.cons ru .nil))
/-! ### the two statements together -/
def iFix (items : List D) (stay : Mem → Prop) : WI := ⟨fun _ M Q => Q items stay M, fun _ _ _ _ h q => h _ _ _ q⟩
/-- x = zip(l, t); return r([.. for .. in x]) -/
def sZip (ta : WA) (k : Nat) (r : WN) (g : WG) (tt : WT) (te : WE) (vs : List Nat) : WS := ⟨fun A ρ M => k < ρ.length ∧ ta.f ρ M fun ds M1 => ∃ a xs ys, ds = [.ref a, .tup ys] ∧ M1 a = some (.lst xs) ∧ lcF g tt te (fun M => M a = some (.lst xs)) (wipeD (ρ.set k none) vs) (fun d M2 => r.f [d] M2 A.rt) (zipD xs ys) [] M1,
  fun A A' ρ M h q => ⟨q.1, ta.mono _ _ _ _ (fun ds M1 ⟨a, xs, ys, e, h1, q⟩ => ⟨a, xs, ys, e, h1, lcF_mono (fun d M2 q => r.mono _ _ _ _ h.rt q) _ _ _ q⟩) q.2⟩⟩
theorem RelS.hide {K : PySem.W.Frag} {H : Hp} {ρ : Sl} {σ : L2.St} {x : Option V} (r : RelS K H ρ σ) (k : Nat) : RelS K H (ρ.set k none) (σ.set k x) := by
  refine ⟨by rw [List.length_set, List.length_set]; exact r.1, fun i d e => ?_⟩
  by_cases h : k = i
  · subst h
    by_cases hi : k < ρ.length
    · rw [List.getElem?_set_self hi] at e; cases e
    · rw [List.getElem?_eq_none (by rw [List.length_set]; omega)] at e; cases e
  · rw [List.getElem?_set_ne h] at e
    obtain ⟨v, h1, h2⟩ := r.2 i d e
    exact ⟨v, by rw [List.getElem?_set_ne h]; exact h1, h2⟩
theorem dss_zip {X : Cx} {x y : Str} {k kk : Nat} {id : String} {e e2 elt : Expr} {elts ifs : List Expr} {ta : WA} {r : WN} {scope : Scope} {own : List (Str × Nat)} {g : WG} {tt : WT} {te : WE} {px pos p pz p2 plc py pc pr tpos : Pos}
    (hc : X.calm = true) (hN : X.N.Nodup) (hk : X.N[k]? = some x) (hx : Loc X.env.scope x) (hv : Vis X.env.scope x) (hz : Gl X "zip") (hmz : X.mg "zip" = none) (ha : DA X [e, e2] ta) (F : DN X (.builtin id) r) (hy : Gl X y) (hmy : X.mg y = none) (hb : bootBuiltins y = some (.builtin id))
    (ok : BlkOk X.N X.env.scope scope own) (hg : ∀ (s : Shared) (H : Hp) (C : Addr) (cl : List (Str × Addr)) (fp : List Addr), DG (X.blk s H scope (compEnvC scope cl C X.env) fp) (.Tuple elts kk tpos) g) (ht : ∀ (s : Shared) (H : Hp) (C : Addr) (cl : List (Str × Addr)) (fp : List Addr), DTs (X.blk s H scope (compEnvC scope cl C X.env) fp) ifs tt)
    (he : ∀ (s : Shared) (H : Hp) (C : Addr) (cl : List (Str × Addr)) (fp : List Addr), DE (X.blk s H scope (compEnvC scope cl C X.env) fp) elt te) (hsl : ∀ i ∈ g.sl, i ∈ own.map (·.2) := by decide)
    (hd : (x == ("__debug__" : Str)) = false := by decide) (hcd : (x == ("__classdict__" : Str)) = false := by decide) (hy1 : y ≠ "__name__" := by decide) (hy2 : (y == ("__debug__" : Str)) = false := by decide)
    (hsw : swapsWith (.Call (.Name "zip" p) [e, e2] [] pz) (some (.Name x px)) pos.line X.env = pure false := by rfl) (hf : X.fn x = true ∨ X.env.scope.names.lookup x = some .local := by first | exact .inl rfl | exact .inr rfl | assumption)
    (hs1 : starEach [e, e2] X.env = (false, eval e X.env) :: starEach [e2] X.env := by rfl) (hp1 : (backTo pz (starEach [e2] X.env)).any (·.1) = false := by rfl) :
    DSs X [.Assign [.Name x px] (.Call (.Name "zip" p) [e, e2] [] pz) pos, .Return (some (.Call (.Name y py) [.ListComp elt [⟨.Tuple elts kk tpos, .Name x p2, ifs, 0⟩] scope plc] [] pc)) pr] (sZip ta k r g tt te (own.map (·.2))) :=
  ⟨PSs.imp (pss_cons (ps_set hN hk hx (pe_zipM hz hmz ha.pa hs1 hp1) hsw hf) (pss_one (ps_ret (pe_callB F.op hy hmy hb (pa_cons (pe_lc hc hN (pi_zipN hk hv hd hcd) ok (fun s H C cl fp => (hg s H C cl fp).pg) (fun s H C cl fp => (ht s H C cl fp).pts) (fun s H C cl fp => (he s H C cl fp).pe)) pa_nil rfl) hy1 hy2)))) fun D σ H ⟨ρ, M, A, rs, rm, ⟨hkl, q⟩, po⟩ => by
    refine ⟨ρ, M, _, rs, rm, q, fun vs ds H1 M1 s1 m1 r1 ⟨a, xs, ys, ed, hM, q1⟩ => ?_⟩
    subst ed
    obtain ⟨v, u, rfl, rv, ru⟩ := rel2 r1
    rw [rel_ref rv]
    obtain ⟨ws, hH, hr⟩ := m1 _ _ hM
    cases ru with
    | tup hT hR =>
      rename_i b us
      refine ⟨a, b, ws, us, rfl, .inl (.inl hH), hT.sq, fun N hn fr la lb => ?_⟩
      obtain ⟨ρ', M', Q', rs', rm', q', body⟩ := lc_imp (wi := iFix (zipD xs ys) fun M => M a = some (.lst xs)) hsl (σ.set k (some (.ref (N + 4)))) H1 (fun v H1 => lN X.prog X.w X.K r [v] H1 D.rt)
        ⟨ρ.set k none, M1, _, RelS.hide (rs.keep (s1.keep rm)) k, m1, q1, fun v d H2 M2 s2 m2 r2 q2 => ⟨[d], M2, A.rt, .cons r2 .nil, m2, q2, fun v d H3 M3 s3 m3 r3 q3 => po.rt v d H3 M3 (s1.trans (s2.trans s3)) m3 r3 q3⟩⟩
      refine ⟨N, a, b, xs.length, us.length, H1, ?_, rfl, fr, hn, la, lb, body _ _ _ H1 M' Step.refl rm' q' (itok_zipM rfl hT hR)⟩
      exact List.getElem?_set_self (by rw [← rs.1]; exact hkl)⟩
end MP

namespace MP
open PySem PySem.Spec PyProof.Rows L2

/-! ### own exceptions: raise, defs that raise, try .. except -/
/-- what may leave: the class's name, its fields, the memory -/
abbrev XD := Str → List (Str × D) → Mem → Prop
/-- a def that may raise -/
structure WNX where
  f : List D → Mem → (D → Mem → Prop) → XD → Prop
  mono : ∀ ds M Q Q' E E', (∀ d M, Q d M → Q' d M) → (∀ c fs M, E c fs M → E' c fs M) → f ds M Q E → f ds M Q' E'
def ExR (K : PySem.W.Frag) (H : Hp) (M : Mem) (cn : Str) (fs : List (Str × D)) (cls : Value) (d : Option Addr) : Prop :=
  cls = .ref (He.ga K cn) ∧ ((fs = [] ∧ d = none) ∨ (fs ≠ [] ∧ ∃ dd gs, d = some dd ∧ H dd = some (.xd gs) ∧ M dd = none ∧ RelFs K H fs gs))
section
variable (P : Program) (w : World) (K : PySem.W.Frag)
def XPost (H : Hp) (M : Mem) (ex : XD) (E : XK) : Prop := ∀ cn fs cls d H' M', Step H M H' M' → RelM P w K H' M' → ExR K H' M' cn fs cls d → ex cn fs M' → E cls d H'
def lSx (ex : XD) (E : XK) (t : WS) : TS := fun B σ H => ∃ ρ M A, RelS K H ρ σ ∧ RelM P w K H M ∧ t.f A ρ M ∧ EPost P w K H M A B ∧ XPost P w K H M ex E
def lSpX (r : WNX) : Sp := fun vs H Q E => ∃ ds M Q' E', RelDs K H ds vs ∧ RelM P w K H M ∧ r.f ds M Q' E' ∧ Post P w K H M Q' Q ∧ XPost P w K H M E' E
end
section
variable {P : Program} {w : World} {K : PySem.W.Frag} {H H1 : Hp} {M M1 : Mem} {ex : XD} {E : XK}
theorem XPost.after (p : XPost P w K H M ex E) (s : Step H M H1 M1) : XPost P w K H1 M1 ex E := fun cn fs cls d H' M' st => p cn fs cls d H' M' (s.trans st)
end
structure DSx (X : Cx) (ex : XD) (s : Stmt) (t : WS) : Prop where
  ps : ∀ E, Takes X (fun cls d _ H => E cls d H) → PS X s (lSx X.prog X.w X.K ex E t)
structure DSsx (X : Cx) (ex : XD) (s : List Stmt) (t : WS) : Prop where
  pss : ∀ E, Takes X (fun cls d _ H => E cls d H) → PSs X s (lSx X.prog X.w X.K ex E t)
/-- raise C('..') -/
def sRaise (ex : XD) (cn : Str) : WS := ⟨fun _ _ M => ex cn [] M, fun _ _ _ _ _ q => q⟩
section
variable {X : Cx} {ex : XD} {st : Stmt} {rest : List Stmt} {t u : WS} {e : Expr} {we : WE} {pos : Pos}
theorem dsx_of (h : DS X st t) : DSx X ex st t := ⟨fun E tk => PS.imp h.ps fun D σ H ⟨ρ, M, A, rs, rm, q, po, px⟩ => ⟨ρ, M, A, rs, rm, q, po⟩⟩
theorem dssx_of (h : DSs X rest t) : DSsx X ex rest t := ⟨fun E tk => PSs.imp h.pss fun D σ H ⟨ρ, M, A, rs, rm, q, po, px⟩ => ⟨ρ, M, A, rs, rm, q, po⟩⟩
theorem dssx_cons (h1 : DSx X ex st t) (h2 : DSsx X ex rest u) : DSsx X ex (st :: rest) (sSeq t u) :=
  ⟨fun E tk => PSs.imp (pss_cons (h1.ps E tk) (h2.pss E tk)) fun D σ H ⟨ρ, M, A, rs, rm, q, po, px⟩ => ⟨ρ, M, { A with nx := u.f A }, rs, rm, q, ⟨fun σ' ρ' H' M' s' m' r' q' => ⟨ρ', M', A, r', m', q', po.after s', px.after s'⟩, po.rt, po.bk, po.ct⟩, px⟩⟩
theorem dssx_one (h1 : DSx X ex st t) : DSsx X ex [st] t := ⟨fun E tk => pss_one (h1.ps E tk)⟩
theorem dsx_if {c : Expr} {a b : List Stmt} {tc : WT} (hc : DT X c tc) (ha : DSsx X ex a t) (hb : DSsx X ex b u) : DSx X ex (.If c a b pos) (sIf tc t u) :=
  ⟨fun E tk => PS.imp (ps_if hc.pt (ha.pss E tk) (hb.pss E tk)) fun D σ H ⟨ρ, M, A, rs, rm, q, po, px⟩ => ⟨ρ, M, _, rs, rm, q, fun k H1 M1 s1 m1 q1 => by
    cases k with
    | true => exact iteT ⟨ρ, M1, A, rs.keep (s1.keep rm), m1, q1.1 rfl, po.after s1, px.after s1⟩
    | false => exact iteF ⟨ρ, M1, A, rs.keep (s1.keep rm), m1, q1.2 rfl, po.after s1, px.after s1⟩⟩⟩
theorem dsx_while {c : Expr} {body : List Stmt} {tc : WT} {tb : WS} (hp : PassesOwn (model X.prog X.w) X.A X.env X.xe) (hc : DT X c tc) (hb : DSsx X ex body tb) : DSx X ex (.While c body [] pos) (sWhile tc tb) :=
  ⟨fun E tk => PS.imp (ps_while hp hc.pt (hb.pss E tk)) fun D σ H ⟨ρ, M, A, rs, rm, ⟨W, ⟨m0, w0⟩, turn⟩, po, px⟩ => by
    refine ⟨fun m σ1 H1 => ∃ ρ1 M1, Step H M H1 M1 ∧ RelM X.prog X.w X.K H1 M1 ∧ RelS X.K H1 ρ1 σ1 ∧ W m ρ1 M1, ⟨m0, ρ, M, Step.refl, rm, rs, w0⟩, ?_⟩
    rintro m σ1 H1 ⟨ρ1, M1, s1, m1, r1, w1⟩
    refine ⟨ρ1, M1, _, r1, m1, turn m ρ1 M1 w1, fun k H2 M2 s2 m2 q2 => ?_⟩
    cases k with
    | true =>
      have s12 := s1.trans s2
      refine iteT ⟨fun σ' H' => ∃ m', m' < m ∧ ∃ ρ' M', Step H M H' M' ∧ RelM X.prog X.w X.K H' M' ∧ RelS X.K H' ρ' σ' ∧ W m' ρ' M', fun σ' H' ⟨m', l, r⟩ => ⟨m', l, r⟩, ρ1, M2, { A with nx := fun ρ M => ∃ m', m' < m ∧ W m' ρ M, ct := fun ρ M => ∃ m', m' < m ∧ W m' ρ M, bk := A.nx }, r1.keep (s2.keep m1), m2, q2.1 rfl, ?_, px.after s12⟩
      have onward : ∀ σ' ρ' H' M', Step H2 M2 H' M' → RelM X.prog X.w X.K H' M' → RelS X.K H' ρ' σ' → (∃ m', m' < m ∧ W m' ρ' M') → ∃ m', m' < m ∧ ∃ ρ' M', Step H M H' M' ∧ RelM X.prog X.w X.K H' M' ∧ RelS X.K H' ρ' σ' ∧ W m' ρ' M' :=
        fun σ' ρ' H' M' s' mm r' ⟨m', l, w'⟩ => ⟨m', l, ρ', M', s12.trans s', mm, r', w'⟩
      exact ⟨onward, fun v d H' M' s' mm r' q' => po.rt v d H' M' (s12.trans s') mm r' q', fun σ' ρ' H' M' s' mm r' q' => po.nx σ' ρ' H' M' (s12.trans s') mm r' q', onward⟩
    | false => exact iteF (po.nx σ1 ρ1 H2 M2 (s1.trans s2) m2 (r1.keep (s2.keep m1)) (q2.2 rfl))⟩
theorem dsx_for {tg iter : Expr} {body : List Stmt} {wi : WI} {g : WG} {tb : WS} (hp : PassesOwn (model X.prog X.w) X.A X.env X.xe) (hc : X.calm = true) (hi : DI X tg iter wi) (hg : DG X tg g) (hb : DSsx X ex body tb)
    (hs : ∀ x, foldedSetIterable iter X.env x = pure x := by intro _; rfl) : DSx X ex (.For tg iter body [] pos) (sFor wi g tb) :=
  ⟨fun E tk => PS.imp (ps_for hp hc hi.pi hg.pg (hb.pss E tk) hs) fun D σ H ⟨ρ, M, A, rs, rm, q, po, px⟩ => ⟨ρ, M, _, rs, rm, q, fun J items stay H1 M1 s1 m1 q1 ok => by
    refine ⟨fun i m σ2 H2 => i + m = items.length ∧ ∃ ρ2 M2, Step H1 M1 H2 M2 ∧ RelM X.prog X.w X.K H2 M2 ∧ RelS X.K H2 ρ2 σ2 ∧ loopF g tb stay A (items.drop i) ρ2 M2, ⟨items.length, by omega, ρ, M1, Step.refl, m1, rs.keep (s1.keep rm), by rw [List.drop_zero]; exact q1⟩, ?_⟩
    rintro i m σ2 H2 ⟨hm, ρ2, M2, s2, m2, r2, q2⟩
    by_cases hi : i < items.length
    · right
      rw [List.drop_eq_getElem_cons hi] at q2
      obtain ⟨sy, q2⟩ := q2
      obtain ⟨_, k2⟩ := ok i H2 M2 (s2.keep m1) m2 sy
      obtain ⟨go, yl⟩ := k2 _ (List.getElem?_eq_getElem hi)
      refine ⟨go, fun σ' H' => ∃ ρ' M', Step H1 M1 H' M' ∧ RelM X.prog X.w X.K H' M' ∧ RelS X.K H' ρ' σ' ∧ loopF g tb stay A (items.drop (i + 1)) ρ' M', fun σ' H' h => ⟨m - 1, by omega, by omega, h⟩, fun x H' hy => ?_⟩
      obtain ⟨s3, m3, r3⟩ := yl x H' hy
      refine ⟨_, ρ2, M2, _, r3, r2.keep (s3.keep m2), m3, q2, fun σ4 ρ4 H4 M4 s4 m4 r4 _ q4 => ⟨ρ4, M4, { A with nx := loopF g tb stay A (items.drop (i + 1)), ct := loopF g tb stay A (items.drop (i + 1)), bk := A.nx }, r4, m4, q4, ?_, px.after (s1.trans (s2.trans (s3.trans s4)))⟩⟩
      have s14 := s2.trans (s3.trans s4)
      exact ⟨fun σ' ρ' H' M' s' mm r' q' => ⟨ρ', M', s14.trans s', mm, r', q'⟩, fun v d H' M' s' mm r' q' => po.rt v d H' M' (s1.trans (s14.trans s')) mm r' q', fun σ' ρ' H' M' s' mm r' q' => po.nx σ' ρ' H' M' (s1.trans (s14.trans s')) mm r' q',
        fun σ' ρ' H' M' s' mm r' q' => ⟨ρ', M', s14.trans s', mm, r', q'⟩⟩
    · left
      rw [List.drop_of_length_le (by omega)] at q2
      obtain ⟨sy, q2⟩ := q2
      exact ⟨(ok i H2 M2 (s2.keep m1) m2 sy).1 (by omega), po.nx σ2 ρ2 H2 M2 (s1.trans s2) m2 r2 q2⟩⟩⟩
/-- what is known of an own exception class without __init__ -/
structure ExcK (X : Cx) (cn : Str) : Prop where
  q : PySem.W.excIn X.K (He.ga X.K cn) He.veBase "ValueError.__new__" = true
  kp : PySem.W.keepIn X.K (.ref (He.ga X.K cn)) = true
  sb : PySem.W.subIn X.K (.ref (He.ga X.K cn)) (.type "BaseException") = some true
  ty : PySem.W.typeIn X.K (.ref (He.ga X.K cn)) = some (.type "type")
  at_ : X.mg cn = some (.ref (He.ga X.K cn))
theorem dsx_raise {cn m : Str} {j : Nat} {p p2 p3 : Pos} (hc : X.calm = true) (c : ExcK X cn) (hg : Gl X cn) (hdb : (cn == ("__debug__" : Str)) = false := by decide) :
    DSx X ex (.Raise (some (.Call (.Name cn p) [.Constant (.str m) j p2] [] p3)) none pos) (sRaise ex cn) :=
  ⟨fun E tk => PS.imp (ps_raise hc tk (pmk_own PySem.F.excBase_ValueError c.q c.at_ c.kp (raises_own c.sb c.ty) hg hdb)) fun D σ H ⟨ρ, M, A, rs, rm, q, po, px⟩ => px cn [] _ none H M Step.refl rm ⟨rfl, .inl ⟨rfl, rfl⟩⟩ q⟩
end

/-! ### defs that raise -/
def FnLawX (n k : Nat) (b : XD → WS) (r : WNX) : Prop := ∀ (P : Program) (w : World) (K : PySem.W.Frag) (H : Hp) (ds : List D) (M : Mem) (Q : D → Mem → Prop) (E : XD), RelM P w K H M → r.f ds M Q E →
  ds.length = k ∧ ∃ M0, RelM P w K H M0 ∧ (∀ a, M a = none → M0 a = none) ∧ (b fun cn fs M' => ∃ M'', Vw P w K M' M'' ∧ E cn fs M'').f (enD P w K Q) (startD n ds) M0
structure CalX (P : Program) (w : World) (K : PySem.W.Frag) (mg : Str → Option Value) (base : Heap) (k : Nat) (x : Str) (r : WNX) : Prop where
  ex : ∃ (f : Addr) (fd : FuncData) (ps : List Str), FnOk P w K mg base (L2.CX P w) k f fd ps (lSpX P w K r) ∧ mg x = some (.ref f) ∧ PySem.W.keepIn K (.ref f) = true ∧ Binds K fd ps []
theorem ExR.vw {P : Program} {w : World} {K : PySem.W.Frag} {H : Hp} {M M' : Mem} {cn : Str} {fs : List (Str × D)} {cls : Value} {d : Option Addr} (h : ExR K H M cn fs cls d) (v : Vw P w K M M') : ExR K H M' cn fs cls d := by
  obtain ⟨h1, h2⟩ := h
  refine ⟨h1, ?_⟩
  rcases h2 with h2 | ⟨a, dd, gs, b, c, e, g⟩
  · exact .inl h2
  · exact .inr ⟨a, dd, gs, b, c, v.1 _ e, g⟩
section
variable {P : Program} {w : World} {K : PySem.W.Frag} {mg : Str → Option Value} {base : Heap} {x qual : Str} {params : Arguments} {body : List Stmt} {scope : Scope} {f : Addr} {fd : FuncData} {N ps : List Str} {k : Nat} {b : XD → WS} {r : WNX}
theorem fnokX (F : FunD K x qual params body scope [] [] f fd) (S : FnScope N ps scope) (law : FnLawX N.length ps.length b r)
    (hb : ∀ (cdv : Value) (A : Around) (outer : List Env) (s : Shared) (H : Hp) (E : XK) (ex : XD), Room k (A.deeper (envOfC qual scope s.heap.objs.size f cdv)) → DSsx (cxOf (L2.CX P w) P w K mg base N qual scope f cdv A outer s H E) ex body (b ex)) :
    FnOk P w K mg base (L2.CX P w) (k + 1) f fd ps (lSpX P w K r) := by
  refine F.ok S (fun vs H Q E ⟨ds, M, Q', E', rds, rm, q, po, px⟩ => ?_) fun cdv A outer s H vs Q E hr ⟨ds, M, Q', E', rds, rm, q, po, px⟩ => ?_
  · rw [← rds.length]; exact (law P w K H ds M Q' E' rm q).1
  · obtain ⟨_, M0, rm0, hM0, q0⟩ := law P w K H ds M Q' E' rm q
    refine ⟨_, (hb cdv A outer s H E (fun cn fs M' => ∃ M'', Vw P w K M' M'' ∧ E' cn fs M'') hr).pss E (takes_of rfl rfl rfl rfl), ?_⟩
    have st : ∀ {H' M' M''}, Step H M0 H' M' → Vw P w K M' M'' → Step H M H' M'' := fun s1 v a o h m => let ⟨h1, m1⟩ := s1 a o h (hM0 a m); ⟨h1, v.1 a m1⟩
    refine ⟨startD N.length ds, M0, enD P w K Q', relS_start rds, rm0, q0, ⟨fun σ ρ H' M' s1 m1 r1 q1 => ?_, fun v d H' M' s1 m1 r1 q1 => ?_, fun _ _ _ _ _ _ _ z => z, fun _ _ _ _ _ _ _ z => z⟩, fun cn fs cls d H' M' s1 m1 r1 q1 => ?_⟩
    · obtain ⟨M'', vw, q2⟩ := q1
      exact po .non .non H' M'' (st s1 vw) (vw.2 _ m1) .non q2
    · obtain ⟨M'', vw, q2⟩ := q1
      exact po v d H' M'' (st s1 vw) (vw.2 _ m1) r1 q2
    · obtain ⟨M'', vw, q2⟩ := q1
      exact px cn fs cls d H' M'' (st s1 vw) (vw.2 _ m1) (r1.vw vw) q2
theorem calX_of (F : FunD K x qual params body scope [] [] f fd) (S : FnScope N ps scope) (hm : mg x = some (.ref f)) (bd : Binds K fd ps []) (law : FnLawX N.length ps.length b r)
    (hb : ∀ (cdv : Value) (A : Around) (outer : List Env) (s : Shared) (H : Hp) (E : XK) (ex : XD), Room k (A.deeper (envOfC qual scope s.heap.objs.size f cdv)) → DSsx (cxOf (L2.CX P w) P w K mg base N qual scope f cdv A outer s H E) ex body (b ex)) :
    CalX P w K mg base (k + 1) x r := ⟨f, fd, ps, fnokX F S law hb, hm, F.kp, bd⟩
end
/-- a def that changes nothing, and gives back a datum or raises -/
def nPureX (C : List D → Mem → Prop) (g : List D → Mem → Except (Str × List (Str × D)) D) : WNX := ⟨fun ds M Q E => C ds M ∧ match g ds M with
  | .ok d => Q d M
  | .error (cn, fs) => E cn fs M, fun ds M Q Q' E E' h i q => ⟨q.1, by
    have q2 := q.2
    cases e : g ds M with
    | ok d => rw [e] at q2; exact h _ _ q2
    | error p => rw [e] at q2; exact i _ _ _ q2⟩⟩
theorem law_pureX {n k : Nat} {b : XD → WS} {C : List D → Mem → Prop} {g : List D → Mem → Except (Str × List (Str × D)) D} (h : ∀ ds M, Cons M → C ds M → ds.length = k ∧ ∀ (R : D → Mem → Prop) (Z : XD), (∀ d M', g ds M = .ok d → Sub M M' → R d M') → (∀ cn fs M', g ds M = .error (cn, fs) → Sub M M' → Z cn fs M') → (b Z).f (rtE R) (startD n ds) M) : FnLawX n k b (nPureX C g) := fun P w K H ds M Q E rm ⟨c, q⟩ => by
  obtain ⟨h1, h2⟩ := h ds M rm.cons c
  refine ⟨h1, M, rm, fun _ z => z, ?_⟩
  refine (b _).mono (rtE _) _ _ _ ?_ (h2 (fun d M' => g ds M = .ok d ∧ Sub M M') _ (fun d M' a s => ⟨a, s⟩) fun cn fs M' a s => ⟨M, Vw.sub rm.cons s, ?_⟩)
  · refine ⟨fun _ M' z => ?_, fun d M' z => ?_, fun _ _ z => z, fun _ _ z => z⟩
    · exact ⟨M, Vw.sub rm.cons z.2, by have q2 := q; rw [z.1] at q2; exact q2⟩
    · exact ⟨M, Vw.sub rm.cons z.2, by have q2 := q; rw [z.1] at q2; exact q2⟩
  · rw [a] at q; exact q

/-! ### try: return f(..) / except C as n: if isinstance(n, B): return None -/
def sTryN (r : WNX) (t : WA) (cn : Str) (i : Nat) : WS := ⟨fun A ρ M => i < ρ.length ∧ t.f ρ M fun ds M1 => r.f ds M1 A.rt fun c fs M2 => c = cn ∧ fs = [] ∧ A.rt .non M2,
  fun A B ρ M h q => ⟨q.1, t.mono _ _ _ _ (fun ds M1 q => r.mono _ _ _ _ _ _ h.rt (fun c fs M2 q => ⟨q.1, q.2.1, h.rt _ _ q.2.2⟩) q) q.2⟩⟩
/-- what is known of a class in an except clause, asked there whether it is one of another -/
structure TryK (X : Cx) (cn bn : Str) : Prop where
  xm : PySem.W.exmOne X.K (.ref (He.ga X.K cn)) (.ref (He.ga X.K cn)) = some true
  ec : ExcC X.K (He.ga X.K cn)
  kit : PySem.W.kitOne X.K (.ref (He.ga X.K cn)) (.ref (He.ga X.K bn)) = some true
  atC : X.mg cn = some (.ref (He.ga X.K cn))
  atB : X.mg bn = some (.ref (He.ga X.K bn))
  isi : X.mg "isinstance" = none
def tryB (K : PySem.W.Frag) (cn bn : Str) : Bool :=
  decide (PySem.W.findIn K (.ref (He.ga K cn)) "__getattribute__" = some (some (.builtin "BaseException.__getattribute__"))) && (decide (PySem.W.findIn K (.ref (He.ga K cn)) "__getattr__" = some none) &&
  (decide (PySem.W.subIn K (.ref (He.ga K cn)) (.type "BaseException") = some true) && (PySem.W.hasDictIn K (He.ga K cn) && (decide (PySem.W.findIn K (.ref (He.ga K cn)) "__class__" = some (some (.builtin "object.__class__"))) &&
  (decide (PySem.W.specialIn K (.builtin "object.__class__") "__get__" = some (some (.builtin "getset_descriptor.__get__"))) && (decide (PySem.W.takesIn K (.builtin "object.__class__") = some true) &&
  (decide (PySem.W.mroIn K (He.ga K cn) (.type "object") = some true) && decide (PySem.W.kitOne K (.ref (He.ga K cn)) (.ref (He.ga K bn)) = some true))))))))
theorem tryB_ok {K : PySem.W.Frag} {cn bn : Str} (h : tryB K cn bn = true) : ExcC K (He.ga K cn) ∧ PySem.W.kitOne K (.ref (He.ga K cn)) (.ref (He.ga K bn)) = some true := by
  obtain ⟨h1, h⟩ := Bool.and_eq_true_iff.mp h
  obtain ⟨h2, h⟩ := Bool.and_eq_true_iff.mp h
  obtain ⟨h3, h⟩ := Bool.and_eq_true_iff.mp h
  obtain ⟨h4, h⟩ := Bool.and_eq_true_iff.mp h
  obtain ⟨h5, h⟩ := Bool.and_eq_true_iff.mp h
  obtain ⟨h6, h⟩ := Bool.and_eq_true_iff.mp h
  obtain ⟨h7, h⟩ := Bool.and_eq_true_iff.mp h
  obtain ⟨h8, h9⟩ := Bool.and_eq_true_iff.mp h
  exact ⟨⟨of_decide_eq_true h1, of_decide_eq_true h2, of_decide_eq_true h3, h4, of_decide_eq_true h5, of_decide_eq_true h6, of_decide_eq_true h7, of_decide_eq_true h8⟩, of_decide_eq_true h9⟩
theorem e_sRaise (ex : XD) (cn : Str) (A : DEn) (ρ : Sl) (M : Mem) : (sRaise ex cn).f A ρ M = ex cn [] M := rfl
theorem e_sTryN (r : WNX) (t : WA) (cn : Str) (i : Nat) (A : DEn) (ρ : Sl) (M : Mem) : (sTryN r t cn i).f A ρ M = (i < ρ.length ∧ t.f ρ M fun ds M1 => r.f ds M1 A.rt fun c fs M2 => c = cn ∧ fs = [] ∧ A.rt .non M2) := rfl
section
variable {X : Cx} {k j i c1 : Nat} {x n cn bn : Str} {r : WNX} {p pos np pos' q1 q2 q3 q4 q5 q6 q7 q8 q9 : Pos} {e : Expr} {es : List Expr} {t : WA}
theorem ds_tryN (c : CalX X.prog X.w X.K X.mg X.base k x r) (hr : Room j X.A) (hk : k ≤ j) (tkk : TryK X cn bn) (hs : X.stack = X.env :: X.outer) (hf : X.env.frame = some X.env.locals) (hN : X.N.Nodup) (hi : X.N[i]? = some n) (hln : X.env.kindOf n = some .local)
    (hvis : Vis X.env.scope n) (hg : Gl X x) (hgC : Gl X cn) (hgB : Gl X bn) (hgI : Gl X "isinstance") (ha : ∀ pn xe, DA (X.tr pn xe) (e :: es) t)
    (hdC : (cn == ("__debug__" : Str)) = false := by decide) (hdB : (bn == ("__debug__" : Str)) = false := by decide) (hdn : (n == ("__debug__" : Str)) = false := by decide) (hcdn : (n == ("__classdict__" : Str)) = false := by decide)
    (hdb : (x == ("__debug__" : Str)) = false := by decide) (he : starEach (e :: es) X.env = (false, eval e X.env) :: starEach es X.env := by rfl) (hpl : (backTo pos (starEach es X.env)).any (·.1) = false := by rfl)
    (hst1 : starEach [.Name n q3, .Name bn q4] X.env = (false, eval (.Name n q3) X.env) :: starEach [.Name bn q4] X.env := by rfl) (hst2 : starEach [.Name bn q4] X.env = (false, eval (.Name bn q4) X.env) :: starEach [] X.env := by rfl) (hpl2 : (backTo q5 (starEach [.Name bn q4] X.env)).any (·.1) = false := by rfl)
    (hit : ∀ whole, isTrue (.Call (.Name "isinstance" q2) [.Name n q3, .Name bn q4] [] q5) X.env whole = (do let v ← whole; standAt (Expr.Call (.Name "isinstance" q2) [.Name n q3, .Name bn q4] [] q5).pos; holding [v] (truthy v)) := by intro _; rfl) :
    DS X (.Try [.Return (some (.Call (.Name x p) (e :: es) [] pos)) q1] [.ExceptHandler (some (.Name cn np)) (some n) [.If (.Call (.Name "isinstance" q2) [.Name n q3, .Name bn q4] [] q5) [.Return (some (.Constant .none c1 q6)) q7] [] q8] pos'] [] [] q9) (sTryN r t cn i) := by
  obtain ⟨f, fd, ps, F, hm, kp, b⟩ := c.ex
  have tkF : Takes X (fun _ _ _ _ => False) := fun u s' ⟨_, _, _, _, _, _, _, _, _, _, _, _, _, _, _, _, z⟩ => z.elim
  refine ⟨PS.imp (ps_try_as (tb := fun W => tRet (tCallS (lSpX X.prog X.w X.K r) (L2.WE W) (lA X.prog X.w X.K t)))
    (ts := fun a cls d D σ H => cls = .ref (He.ga X.K cn) ∧ d = none ∧ σ[i]? = some (some (.ref a)) ∧ D.rt .non H) hs hf hN hi hln ⟨hgC, hdC, .inl tkk.atC⟩ tkF (fun W pn xe tk hp => pss_one (ps_ret (pe_callS (X := X.tr pn xe) F (hr.mono hk) hg hm kp b (passAt tk) (ha pn xe).pa hdb he hpl))) ?_) ?_⟩
  · intro a oe cls d pn hz hfl
    refine ⟨fun pins s σ H D I q => ?_⟩
    obtain ⟨e1, e2, e3, q⟩ := q
    subst e1 e2
    have pI : PE (X.suite a ((a, oe) :: pn)) (.Call (.Name "isinstance" q2) [.Name n q3, .Name bn q4] [] q5) (tCB (rIsE X.K (He.ga X.K cn) a) (tCons (tVar i) (tCons (tC (.ref (He.ga X.K bn))) tNil))) :=
      pe_callB (X := X.suite a ((a, oe) :: pn)) (call_isE tkk.ec hz hfl) hgI tkk.isi bb_isinstance (pa_cons (pe_var hi hvis hdn hcdn) (pa_cons (pe_glob hgB tkk.atB rfl hdB) pa_nil hst2) hst1) (by decide) (by decide) hst1 hpl2
    refine (pss_one (ps_if (pt_val pI hit) (pss_one (ps_ret pe_non)) pss_nil)).run pins s σ H D I ?_
    exact ⟨.ref a, e3, .ref (He.ga X.K bn), _, true, rfl, fun u z => z, tkk.kit, true, rfl, iteT q⟩
  · intro D σ H ⟨ρ, M, A, rs, rm, ⟨hl, q⟩, po⟩
    have hl2 : i < σ.length := by have := rs.1; omega
    refine ⟨ρ, M, _, rs, rm, q, fun vs ds H1 M1 s1 m1 r1 q1 => ⟨ds, M1, A.rt, _, r1, m1, q1, fun v d H' M' st m' r' q' => po.rt v d H' M' (s1.trans st) m' r' q', fun c fs cls d H' M' st m' xr q' => ?_⟩⟩
    obtain ⟨rfl, rfl, q2⟩ := q'
    obtain ⟨rfl, xr⟩ := xr
    have hd : d = none := by
      rcases xr with xr | xr
      · exact xr.2
      · exact absurd rfl xr.1
    subst hd
    refine ⟨true, tkk.xm, fun _ a ha => ⟨rfl, rfl, ?_, ?_⟩, fun z => by cases z⟩
    · rw [List.getElem?_set_self hl2]
    · exact po.rt .non .non H' M' (s1.trans st) m' .non q2
end
end MP

namespace MP
open PySem PySem.Spec PyProof.Rows L2

/-! ### sorted(t), t a tuple -/
def nSortedT : WN := ⟨fun ds M Q => ∃ xs, ds = [.tup xs] ∧ PySem.W.AllAlike (xs.map D.py) ∧ PySem.W.Sortable (xs.map D.py) ∧ (∀ x ∈ xs, x.pl ∧ x.dep ≤ 60) ∧ ∀ p, M p = none → Q (.ref p) (mupd M p (.lst (sortD xs))),
  fun _ _ _ _ h ⟨xs, e1, e3, e4, e5, q⟩ => ⟨xs, e1, e3, e4, e5, fun p hp => h _ _ (q p hp)⟩⟩
section
variable {X : Cx}
theorem f_sortedT (hu : X.A.units + 64 < cLine) : DN X (.builtin "sorted") nSortedT := ⟨fun pins s σ H xs us Q I rx ⟨ds, M, Q', rds, rm, ⟨ys, e, al, so, hp, q⟩, po⟩ => by
  subst e
  obtain ⟨x, rfl, rd⟩ := rel1 rds
  cases rd with
  | @tup a _ xs ht hr =>
    obtain ⟨u, rfl, ru⟩ := vals1 rx
    cases ru
    obtain ⟨its, rits, hl, hz⟩ := I.tuple ht.sq
    obtain ⟨o, ho, hc, n, hd⟩ := hl
    have lv : its.length = xs.length := rits.length.symm
    have ly : ys.length = xs.length := hr.length
    refine PySem.Calls.call_function_entry kind_sorted plain_sorted entry_sorted (args_sorted1 _) ?_
    unfold Builtin.«sorted»
    refine wpAny_bind (m := checkCount "sorted" 1 1 _) (wpAny_pure ?_)
    refine wpAny_bind (wpAny_collect_seq a (.inr rfl) ho hc hd (fun h' keep => ?_) (by show its.length ≤ sizeLine; omega))
    refine wpAny_bind (wpAny_newList ?_ (by show its.length ≤ sizeLine; omega))
    have I1 : Inv X pins σ H { s with heap := h' } := I.kept (t' := s.toks) keep
    have hn : H h'.objs.size = none := I1.hok.fresh (Nat.le_refl _)
    have er := each_reads I1 hr rits fun d hd => (hp d hd).1
    have push : ∀ b ob, h'.get? b = some ob → (h'.push { cls := .type "list", data := .seq its.toArray.toList.toArray }).get? b = some ob := fun b ob e => Heap.get?_push_of_some _ e
    refine wpAny_bind (wpAny_holding (wpAny_mono (Q := fun v s' => EP X pins σ Q (.ref h'.objs.size) s') (PySem.W.list_sort_data (s := { s with heap := h'.push { cls := .type "list", data := .seq its.toArray.toList.toArray } }) (a := h'.objs.size) (n := 0) (vs := its) (bs := ys) (enc := D.py) (R := fun u d => ∃ v, RelD X.K H d v ∧ RelV v u)
      (Heap.get?_push_size _ rfl) (each_rel hr rits) (er.mono fun u d ⟨as, r⟩ => ⟨as, PyProof.Rows.Reads.keeps push r, fun hm => by
        obtain ⟨ob, e⟩ := PyProof.On.reads_mem_get r _ hm
        exact absurd (Heap.lt_size e) (Nat.lt_irrefl _)⟩) al so (by omega) (fun b hb => by
          have : b.py.depth ≤ 60 := (hp b hb).2
          show X.A.units + 1 + 1 + b.py.depth < cLine
          omega) fun out ho eo => ?_) (fun _ s' x => ?_) fun _ _ e => e))
    · obtain ⟨ws, r1, r2⟩ := rel_each eo
      obtain ⟨c, hc'⟩ := PyProof.Rows.sortedHeap_at (h := h'.push { cls := .type "list", data := .seq its.toArray.toList.toArray }) (a := h'.objs.size) (vs := its) (n := 0) (out := out.toArray) (Heap.get?_push_size _ rfl)
      have hlen : ws.length ≤ sizeLine := by rw [r2.length, ho]; omega
      refine ⟨.ref _, _, I1.laid (a := h'.objs.size) (t' := s.toks) (o := .lst ws) (fun b ob e => ?_) (Nat.le_refl _) ⟨hlen, out, c, r2, hc'⟩, rfl, po _ (.ref _) _ _ (Step.new rm hn (.lst _)) (rm.laid hn (keep_new hn) ⟨ws, upd_same, r1.keep (keep_new hn)⟩) (.ref _) (q _ (rm.free hn))⟩
      have lt := Heap.lt_size e
      rw [PyProof.Rows.sortedHeap_old (Nat.ne_of_lt lt) (by rw [Heap.size_push]; exact Nat.lt_succ_of_lt lt)]
      exact push b ob e
    · exact wpAny_pure ⟨_, rfl, x⟩⟩
end
/-! ### list(a range object) -/
def nListR : WN := ⟨fun ds M Q => ∃ a lo hi, ds = [.ref a] ∧ M a = some (.rg lo hi) ∧ (-(2 ^ 62) ≤ lo ∧ lo < 2 ^ 62 ∧ -(2 ^ 62) ≤ hi ∧ hi < 2 ^ 62) ∧ (hi - lo).toNat ≤ 1000000 ∧ ∀ p, M p = none → Q (.ref p) (mupd M p (.lst (rngD lo (hi - lo).toNat))),
  fun _ _ _ _ h ⟨a, lo, hi, e1, e2, e3, e4, q⟩ => ⟨a, lo, hi, e1, e2, e3, e4, fun p hp => h _ _ (q p hp)⟩⟩
theorem listr_at {a : Addr} {lo hi : Int} {M : Mem} {Q : D → Mem → Prop} (h : M a = some (.rg lo hi)) (hb : -(2 ^ 62) ≤ lo ∧ lo < 2 ^ 62 ∧ -(2 ^ 62) ≤ hi ∧ hi < 2 ^ 62) (hl : (hi - lo).toNat ≤ 1000000) (q : ∀ p, M p = none → Q (.ref p) (mupd M p (.lst (rngD lo (hi - lo).toNat)))) : nListR.f [.ref a] M Q := ⟨a, lo, hi, rfl, h, hb, hl, q⟩
theorem f_listR {X : Cx} (hc : X.calm = true) : DN X (.type "list") nListR := ⟨fun pins s σ H xs us Q I rx ⟨ds, M, Q', rds, rm, ⟨a, lo, hi, e, h0, ⟨b1, b2, b3, b4⟩, hl, q⟩, po⟩ => by
  subst e
  obtain ⟨v, rfl, rv⟩ := rel1 rds
  rw [rel_ref rv] at rx
  obtain ⟨u, rfl, ru⟩ := vals1 rx
  cases ru
  have hr : H a = some (.rng lo hi) := rm a _ h0
  have sz := sizeLine_eq
  obtain ⟨t, u, w, hg⟩ := (show ObjOk X.prog X.w H s.heap a (.rng lo hi) from I.hok a _ hr)
  refine PySem.call_list_range (n := (hi - lo).toNat) (I.ok.hd hc) hg (small_one b1 b2 b3 b4) (rangeSize_nat lo hi) (by omega) fun h' tk acc c' hk e' hi' => ?_
  have hn0 : H s.heap.objs.size = none := I.hok.fresh (Nat.le_refl _)
  have eachI : ∀ (H' : Hp) (l : List Nat), RelDs X.K H' (l.map fun i => D.int (lo + (i : Nat))) (l.map fun i => V.int (lo + (i : Nat))) := fun H' l => by
    induction l with
    | nil => exact .nil
    | cons k l ih => exact .cons (.int _) ih
  refine ⟨.ref s.heap.objs.size, upd H s.heap.objs.size (.lst (rgV lo hi)), I.laid hk (Nat.le_refl _) (show ObjOk X.prog X.w _ _ _ (.lst (rgV lo hi)) from ⟨?_, acc.toList, c', vals_rg hi', ?_⟩), rfl,
    po _ (.ref _) _ _ (Step.new rm hn0 (.lst _)) (rm.laid hn0 (keep_new hn0) ⟨rgV lo hi, upd_same, eachI _ _⟩) (.ref _) (q _ (rm.free hn0))⟩
  · rw [rgV_length, sz]; omega
  · rw [Array.toArray_toList]; exact e'⟩
end MP

namespace MP
open PySem PySem.Spec PyProof.Rows L2

/-! ### t.index(x) of a tuple that was made by + on the row before: it is kept frozen (so that it is known to have no dict) till the row is done -/
/-- not frozen at the def's entry -/
def NF (X : Cx) (a : Addr) : Prop := ∀ o u, X.H_0 a ≠ some (.frz o u)
theorem nf_new {X : Cx} {pins : List (Addr × Obj)} {σ : L2.St} {H : Hp} {s : Shared} {a : Addr} (I : Inv X pins σ H s) (h : H a = none) : NF X a := fun o u e => by
  rw [I.base.frzs a o u e] at h; cases h
/-- a written tuple, frozen -/
def tTupF (X : Cx) (t : TA) : TE := fun σ H Q => t σ H fun xs H1 => xs.length ≤ sizeLine ∧ ∀ p ob, H1 p = none → ob.dict = none → NF X p → Q (.ref p) (upd H1 p (.frz ob (.tup xs)))
def rCatF (X : Cx) : R2 := fun x y H Q => ∃ p q xs ys ob, x = .ref p ∧ y = .ref q ∧ H p = some (.frz ob (.tup xs)) ∧ ob.dict = none ∧ NF X p ∧ SqT X.K H q ys ∧ xs ≠ [] ∧ xs.length + ys.length ≤ sizeLine ∧
  (ys = [] → Q (.ref p) H) ∧ (ys ≠ [] → ∀ a ob', H a = none → ob'.dict = none → NF X a → Q (.ref a) (upd H a (.frz ob' (.tup (xs ++ ys)))))
section
variable {X : Cx} {es : List Expr} {t : TA} {k : Nat} {pos : Pos}
theorem pe_tupF (h : PA X es t) : PE X (.Tuple es k pos) (tTupF X t) := by
  refine ⟨fun pins s σ H Q I hq => wpAny_Tuple_spliced (thn (h.run pos pins s σ H _ I hq) fun us s1 ⟨xs, H1, I1, r, z, q⟩ => ⟨by rw [← r.length]; exact z, ?_⟩)⟩
  have hf : H1 s1.heap.objs.size = none := I1.hok.fresh (Nat.le_refl _)
  have hg : (s1.heap.push { cls := .type "tuple", data := .seq us.toArray }).get? s1.heap.objs.size = some { cls := .type "tuple", data := .seq us.toArray } := Heap.get?_push_size _ rfl
  exact ⟨.ref s1.heap.objs.size, _, I1.laid (t' := s1.toks) (o := .frz { cls := .type "tuple", data := .seq us.toArray } (.tup xs)) (fun b u e => Heap.get?_push_of_some _ e) (Nat.le_refl _) ⟨hg, z, us, r, ⟨_, hg, rfl, _, rfl⟩⟩, rfl, q _ _ hf rfl (nf_new I1 hf)⟩
theorem op_catF : OpR X (binaryOp .Add) (rCatF X) := by
  intro pins s σ H x y v u Q I rx ry ⟨p, q, xs, ys, ob, ex, ey, hp, hd, hnf, hq, hx, hz, q1, q2⟩
  subst ex ey
  cases rx
  cases ry
  obtain ⟨its, r1, p1, _⟩ := I.tuple (.inl (.inr ⟨ob, hp⟩))
  obtain ⟨its2, r2, p2, _⟩ := I.tuple hq
  have hf : H s.heap.objs.size = none := I.hok.fresh (Nat.le_refl _)
  have hg : (s.heap.push { cls := .type "tuple", data := .seq (its ++ its2).toArray }).get? s.heap.objs.size = some { cls := .type "tuple", data := .seq (its ++ its2).toArray } := Heap.get?_push_size _ rfl
  refine HT.cat_tup p1 p2 (fun z => hx (r1.nil_iff.mp z)) (fun z => ⟨.ref p, H, I, rfl, q1 (r2.nil_iff.mp z)⟩) (fun z => ?_) (by rw [← r1.length, ← r2.length]; exact hz)
  exact ⟨.ref _, _, I.laid (t' := s.toks) (o := .frz { cls := .type "tuple", data := .seq (its ++ its2).toArray } (.tup (xs ++ ys))) (fun b ob q => Heap.get?_push_of_some _ q) (Nat.le_refl _) ⟨hg, by rw [List.length_append]; exact hz, _, r1.append r2, ⟨_, hg, rfl, _, rfl⟩⟩, rfl, q2 (fun w => z (r2.nil_iff.mpr w)) _ _ hf rfl (nf_new I hf)⟩
end
/-- the tuple at a is frozen, has no dict, and M does not know it -/
def Ph (a : Addr) (vs : List V) (H : Hp) (M : Mem) : Prop := (∃ ob, H a = some (.frz ob (.tup vs)) ∧ ob.dict = none) ∧ M a = none
theorem Ph.step {a : Addr} {vs : List V} {H H' : Hp} {M M' : Mem} (h : Ph a vs H M) (s : Step H M H' M') : Ph a vs H' M' := by
  obtain ⟨⟨ob, e, d⟩, m⟩ := h
  obtain ⟨h1, h2⟩ := s a _ e m
  exact ⟨⟨ob, h1, d⟩, h2⟩
section
variable (P : Program) (w : World) (K : PySem.W.Frag) (a : Addr) (vs : List V)
def lEp (t : WE) : TE := fun σ H Q => ∃ ρ M Q', RelS K H ρ σ ∧ RelM P w K H M ∧ Ph a vs H M ∧ t.f ρ M Q' ∧ Post P w K H M Q' Q
def lAp (t : WA) : TA := fun σ H Q => ∃ ρ M Q', RelS K H ρ σ ∧ RelM P w K H M ∧ Ph a vs H M ∧ t.f ρ M Q' ∧ ∀ us ds H' M', Step H M H' M' → RelM P w K H' M' → RelDs K H' ds us → Q' ds M' → Q us H'
def lSp' (t : WS) : TS := fun B σ H => ∃ ρ M A, RelS K H ρ σ ∧ RelM P w K H M ∧ Ph a vs H M ∧ t.f A ρ M ∧ EPost P w K H M A B
end
structure DEp (X : Cx) (a : Addr) (vs : List V) (e : Expr) (t : WE) : Prop where
  pe : PE X e (lEp X.prog X.w X.K a vs t)
structure DSp (X : Cx) (a : Addr) (vs : List V) (e : Stmt) (t : WS) : Prop where
  ps : PS X e (lSp' X.prog X.w X.K a vs t)
/-- names.index(x), names at slot i the tuple at a, x at slot j -/
def wIdxT (a : Addr) (ns : List Int) (i j : Nat) : WE := ⟨fun ρ M Q => ρ[i]? = some (some (.ref a)) ∧ ∃ k, ρ[j]? = some (some (.int k)) ∧ k ∈ ns ∧ Q (.int (ns.idxOf k : Nat)) M,
  fun _ _ _ _ h ⟨e, k, e1, e2, q⟩ => ⟨e, k, e1, e2, h _ _ q⟩⟩
section
variable {X : Cx} {a : Addr} {vs : List V} {e b : Expr} {we wa wb : WE} {pos : Pos}
theorem dep_ix {r : W2} (hr : DIx X r) (ha : DE X e wa) (hb : DEp X a vs b wb) (hs : PlainIx b := by intro _ _; with_unfolding_all rfl) : DEp X a vs (.Subscript e b pos) (wOp r wa wb) :=
  ⟨PE.imp (pe_ix hr.ix ha.pe hb.pe hs) fun σ H Q ⟨ρ, M, Q', rs, rm, ph, q, po⟩ => ⟨ρ, M, _, rs, rm, q, fun x d H1 M1 s1 m1 r1 q1 => ⟨ρ, M1, _, rs.keep (s1.keep rm), m1, ph.step s1, q1, fun y e H2 M2 s2 m2 r2 q2 =>
    ⟨d, e, M2, Q', r1.keep (s2.keep m1), r2, m2, q2, (po.after s1).after s2⟩⟩⟩⟩
theorem dep_callTy {x : Str} {T : String} {p : Pos} {r : WN} (hc : DN X (.type T) r) (hg : Gl X x) (hm : X.mg x = none) (hv : bootBuiltins x = some (.type T)) (ha : DEp X a vs e we) (hn : x ≠ "__name__" := by decide) (hdb : (x == ("__debug__" : Str)) = false := by decide)
    (hs : starEach [e] X.env = (false, eval e X.env) :: starEach [] X.env := by rfl) (he : starEach [e] X.env = (false, eval e X.env) :: starEach [] X.env := by rfl) (hpl : (backTo pos (starEach [] X.env)).any (·.1) = false := by rfl) : DEp X a vs (.Call (.Name x p) [e] [] pos) (wCB r (aCons we aNil)) :=
  ⟨PE.imp (pe_callTy hc.op hg hm hv (pa_cons ha.pe pa_nil hs) hn hdb he hpl) fun σ H Q ⟨ρ, M, Q', rs, rm, ph, q, po⟩ => ⟨ρ, M, _, rs, rm, ph, q, fun v d H1 M1 s1 m1 r1 q1 => ⟨[d], M1, Q', .cons r1 .nil, m1, q1, po.after s1⟩⟩⟩
theorem dsp_set {i : Nat} {x : Str} {pos' : Pos} (hN : X.N.Nodup) (hi : X.N[i]? = some x) (hx : Loc X.env.scope x) (he : DEp X a vs e we) (hs : swapsWith e (some (.Name x pos')) pos.line X.env = pure false := by rfl) (hf : X.fn x = true ∨ X.env.scope.names.lookup x = some .local := by first | exact .inl rfl | exact .inr rfl | assumption) :
    DSp X a vs (.Assign [.Name x pos'] e pos) (sAsg we (gN i)) :=
  ⟨PS.imp (ps_set hN hi hx he.pe hs hf) fun D σ H ⟨ρ, M, A, rs, rm, ph, q, po⟩ => ⟨ρ, M, _, rs, rm, ph, q, fun v d H1 M1 s1 m1 r1 q1 => po.nx _ _ H1 M1 s1 m1 ((rs.keep (s1.keep rm)).set i r1) q1⟩⟩
theorem dep_idx {n m : Str} {i j : Nat} {ns : List Int} {p1 p2 p3 : Pos} (hv : vs = ns.map V.int) (hNi : X.N[i]? = some n := by rfl) (hNj : X.N[j]? = some m := by rfl)
    (vn : Vis X.env.scope n := by first | exact Or.inl rfl | exact Or.inr (Or.inl rfl) | exact Or.inr (Or.inr rfl)) (vm : Vis X.env.scope m := by first | exact Or.inl rfl | exact Or.inr (Or.inl rfl) | exact Or.inr (Or.inr rfl))
    (hd1 : (n == ("__debug__" : Str)) = false := by decide) (hd2 : (n == ("__classdict__" : Str)) = false := by decide) (hd3 : (m == ("__debug__" : Str)) = false := by decide) (hd4 : (m == ("__classdict__" : Str)) = false := by decide)
    (hbase : attributeBase (.Name n p1) "index" X.env (eval (.Name n p1) X.env) = eval (.Name n p1) X.env := by rfl)
    (hfew : ((backTo pos (starEach [.Name m p3] X.env)).all (fun x => !x.1) && (backToKw pos (keywordEach [] X.env)).all (fun x => x.1.isSome) && decide (([.Name m p3] : List Expr).length + ([] : List Keyword).length + (if ([] : List Keyword).isEmpty then 0 else 1) < 30)) = true := by rfl)
    (hline : (p2.endLine == pos.line) = true := by rfl) (hs : starEach [.Name m p3] X.env = (false, eval (.Name m p3) X.env) :: starEach [] X.env := by rfl) (hplain : (backTo pos (starEach [] X.env)).any (·.1) = false := by rfl) :
    DEp X a vs (.Call (.Attribute (.Name n p1) "index" p2) [.Name m p3] [] pos) (wIdxT a ns i j) := ⟨by
  subst hv
  refine ⟨fun pins s σ H Q I ⟨ρ, M, Q', rs, rm, ⟨⟨ob, hH, hd⟩, hM⟩, ⟨e1, k, e2, hk, q⟩, po⟩ => ?_⟩
  obtain ⟨v1, f1, g1⟩ := rs.2 i _ e1
  obtain ⟨v2, f2, g2⟩ := rs.2 j _ e2
  cases g1
  cases g2
  refine wpAny_Call_method_late hbase hfew hline rfl (thn ((pe_var hNi vn hd1 hd2).run pins s σ H (fun x H1 => x = .ref a ∧ H = H1) I ⟨_, f1, rfl, rfl⟩) fun v s1 ⟨x, H1, I1, rx, ex, eH⟩ => ?_)
  subst ex eH
  cases rx
  have hok := I1.hok a _ hH
  obtain ⟨its, r, pl, hz⟩ := I1.tuple (.inl (.inr ⟨ob, hH⟩) : SqT X.K H a (ns.map V.int))
  refine ⟨"tuple", "tuple.index", PySem.F.plainAttrs_tuple, PySem.F.slot_tuple_index, PySem.F.type_tuple_index, pl.typeIs, fun b e => by cases e; exact ⟨ob, hok.1, hd⟩, ?_⟩
  have hA := (pa_cons (pe_var hNj vm hd3 hd4) pa_nil hs).run pos pins s1 σ H (fun xs H2 => xs = [.int k] ∧ H = H2) I1 ⟨_, f2, rfl, rfl⟩
  rw [hs] at hA ⊢
  refine Calls.callWith_builtin (by show (false || (backTo pos (starEach [] X.env)).any (·.1)) = false; rw [hplain] <;> rfl) (Calls.evalArgs_plain ?_)
  refine thn hA fun us s2 ⟨xs, H2, I2, r2, ex, eH⟩ => ?_
  subst ex eH
  obtain ⟨u, rfl, t, rfl⟩ := vals1 r2
  obtain ⟨its2, r2', pl2, _⟩ := I2.tuple (.inl (.inr ⟨ob, hH⟩) : SqT X.K H a (ns.map V.int))
  exact PySem.SeqAt.tuple_index_ints pl2 r2'.ints hk ⟨.int _, H, I2.tok _, ⟨_, rfl⟩, po.here rm (.int _) q⟩⟩
end
section
variable {P : Program} {w : World} {K : PySem.W.Frag} {a : Addr} {vv : List V}
theorem lcp_imp {wi : WI} {g : WG} {tt : WT} {te : WE} {vs : List Nat} (hsl : ∀ i ∈ g.sl, i ∈ vs) (σ : L2.St) (H : Hp) (Q : VK) (h : lEp P w K a vv (wLc wi g tt te vs) σ H Q) : tLc (lI P w K wi) (lG P w K g) (lT P w K tt) (lEp P w K a vv te) vs σ H Q := by
  obtain ⟨ρ, M, Q', rs, rm, ph, q, po⟩ := h
  refine ⟨ρ, M, _, rs, rm, q, fun J items stay H1 M1 s1 m1 q1 ok Dd hD => ?_⟩
  refine ⟨fun i m H2 => i + m = items.length ∧ ∃ M2 acc vacc, H2 Dd = some (.lst vacc) ∧ M2 Dd = none ∧ RelDs K H2 acc vacc ∧ Step H1 M1 H2 M2 ∧ RelM P w K H2 M2 ∧ lcF g tt te stay (wipeD ρ vs) Q' (items.drop i) acc M2,
    ⟨items.length, by omega, M1, [], [], upd_same, m1.free hD, .nil, Step.beside hD, m1.beside hD, by rw [List.drop_zero]; exact q1⟩, ?_⟩
  rintro i m H2 ⟨hm, M2, acc, vacc, hDd, hMd, racc, s2, m2, q2⟩
  by_cases hi : i < items.length
  · right
    rw [List.drop_eq_getElem_cons hi] at q2
    obtain ⟨sy, q2⟩ := q2
    obtain ⟨_, k2⟩ := ok i H2 M2 (s2.keep m1) m2 sy
    obtain ⟨go, yl⟩ := k2 _ (List.getElem?_eq_getElem hi)
    refine ⟨go, fun H' => ∃ M' acc vacc, H' Dd = some (.lst vacc) ∧ M' Dd = none ∧ RelDs K H' acc vacc ∧ Step H1 M1 H' M' ∧ RelM P w K H' M' ∧ lcF g tt te stay (wipeD ρ vs) Q' (items.drop (i + 1)) acc M', fun H' h => ⟨m - 1, by omega, by omega, h⟩, fun x H' hy => ?_⟩
    obtain ⟨s3, m3, r3⟩ := yl x H' hy
    have s13 := s1.trans (s2.trans s3)
    have rsw := (rs.keep (s13.keep rm)).wipe vs
    refine ⟨_, wipeD ρ vs, M2, _, r3, rsw, m3, q2, fun σ4 ρ4 H4 M4 s4 m4 r4 ss4 q4 => ⟨wipe_same ss4 hsl, ρ4, M4, _, r4, m4, q4, fun b H5 M5 s5 m5 q5 => ?_⟩⟩
    have s25 := s3.trans (s4.trans s5)
    have ph5 := ph.step (s13.trans (s4.trans s5))
    obtain ⟨hD5, hM5⟩ := s25 Dd _ hDd hMd
    cases b with
    | false => exact iteF ⟨M5, acc, vacc, hD5, hM5, racc.keep (s25.keep m2), s2.trans s25, m5, q5.2 rfl⟩
    | true =>
      refine iteT ⟨ρ4, M5, _, r4.keep (s5.keep m4), m5, ph5, q5.1 rfl, fun v d H6 M6 s6 m6 r6 q6 => ?_⟩
      have s26 := s25.trans s6
      obtain ⟨hD6, hM6⟩ := s26 Dd _ hDd hMd
      have racc6 := racc.keep (s26.keep m2)
      refine ⟨vacc, hD6, by rw [← racc.length]; exact q6.1, M6, acc ++ [d], vacc ++ [v], upd_same, hM6, (racc6.append (.cons r6 .nil)).keep (m6.hidW hD6 hM6 trivial).2, fun b o ha hma => ?_, (m6.hidW hD6 hM6 trivial).1, q6.2⟩
      obtain ⟨h1, h2⟩ := (s2.trans s26) b o ha hma
      have ne : b ≠ Dd := fun z => by subst z; rw [hD] at ha; cases ha
      exact ⟨by rw [upd_ne ne]; exact h1, h2⟩
  · left
    rw [List.drop_of_length_le (by omega)] at q2
    obtain ⟨sy, q2⟩ := q2
    refine ⟨(ok i H2 M2 (s2.keep m1) m2 sy).1 (by omega), po (.ref Dd) (.ref Dd) H2 (mupd M2 Dd (.lst acc)) ?_ ?_ (.ref Dd) (q2 Dd hMd)⟩
    · intro a o ha hma
      obtain ⟨h1, h2⟩ := s1 a o ha hma
      obtain ⟨h3, h4⟩ := s2 a o h1 h2
      have ne : a ≠ Dd := fun z => by subst z; rw [hD] at h1; cases h1
      exact ⟨h3, by rw [mupd_ne ne]; exact h4⟩
    · intro a o ha
      by_cases e : a = Dd
      · subst e; rw [mupd_same] at ha; cases ha; exact ⟨vacc, hDd, racc⟩
      · rw [mupd_ne e] at ha
        exact RelO.step m2 ⟨fun _ _ h => h, fun _ _ _ h => h⟩ (m2 a o ha) (fun _ _ => rfl) ha fun b _ hb => by
          rw [mupd_ne (fun z => by rw [z, hMd] at hb; cases hb)]; exact hb
end
section
variable {X : Cx}
theorem dep_lc {a : Addr} {vv : List V} {elt tg iter : Expr} {ifs : List Expr} {scope : Scope} {own : List (Str × Nat)} {pos : Pos} {wi : WI} {g : WG} {tt : WT} {te : WE} (hc : X.calm = true) (hN : X.N.Nodup) (hi : DI X tg iter wi) (ok : BlkOk X.N X.env.scope scope own)
    (hg : ∀ (s : Shared) (H : Hp) (C : Addr) (cl : List (Str × Addr)) (fp : List Addr), DG (X.blk s H scope (compEnvC scope cl C X.env) fp) tg g) (ht : ∀ (s : Shared) (H : Hp) (C : Addr) (cl : List (Str × Addr)) (fp : List Addr), DTs (X.blk s H scope (compEnvC scope cl C X.env) fp) ifs tt)
    (he : ∀ (s : Shared) (H : Hp) (C : Addr) (cl : List (Str × Addr)) (fp : List Addr), DEp (X.blk s H scope (compEnvC scope cl C X.env) fp) a vv elt te) (hsl : ∀ i ∈ g.sl, i ∈ own.map (·.2) := by decide) (hs : ∀ x, foldedSetIterable iter X.env x = pure x := by intro _; rfl) :
    DEp X a vv (.ListComp elt [⟨tg, iter, ifs, 0⟩] scope pos) (wLc wi g tt te (own.map (·.2))) :=
  ⟨PE.imp (pe_lc hc hN hi.pi ok (fun s H C cl fp => (hg s H C cl fp).pg) (fun s H C cl fp => (ht s H C cl fp).pts) (fun s H C cl fp => (he s H C cl fp).pe) hs) (lcp_imp hsl)⟩
/-- names = (..) + b, and a row behind it that may ask names.index(..) -/
def sIdx2 (tA : WA) (wB : WE) (i : Nat) (t2 : Addr → List Int → WS) (u : WS) : WS := ⟨fun A ρ M => tA.f ρ M fun xs M1 => ∃ ns1 : List Int, xs = ns1.map .int ∧ ns1 ≠ [] ∧ ns1.length ≤ sizeLine ∧ wB.f ρ M1 fun d M2 => ∃ ns2 : List Int, d = .tup (ns2.map .int) ∧ ns1.length + ns2.length ≤ sizeLine ∧ ∀ a, M2 a = none →
    (t2 a (ns1 ++ ns2)).f { nx := fun ρ' M' => ρ'[i]? = some (some (.ref a)) ∧ u.f A (ρ'.set i (some (.tup ((ns1 ++ ns2).map .int)))) M', rt := A.rt } (ρ.set i (some (.ref a))) M2,
  fun A B ρ M h q => tA.mono _ _ _ _ (fun xs M1 ⟨ns1, e1, e2, e3, q⟩ => ⟨ns1, e1, e2, e3, wB.mono _ _ _ _ (fun d M2 ⟨ns2, e4, e5, q⟩ => ⟨ns2, e4, e5, fun a ha => (t2 a (ns1 ++ ns2)).mono { nx := fun ρ' M' => ρ'[i]? = some (some (.ref a)) ∧ u.f A (ρ'.set i (some (.tup ((ns1 ++ ns2).map .int)))) M', rt := A.rt } { nx := fun ρ' M' => ρ'[i]? = some (some (.ref a)) ∧ u.f B (ρ'.set i (some (.tup ((ns1 ++ ns2).map .int)))) M', rt := B.rt } _ _ ⟨fun ρ' M' q => ⟨q.1, u.mono _ _ _ _ h q.2⟩, h.rt, fun _ _ z => z, fun _ _ z => z⟩ (q a ha)⟩) q⟩) q⟩
theorem e_sIdx2 (tA : WA) (wB : WE) (i : Nat) (t2 : Addr → List Int → WS) (u : WS) (A : DEn) (ρ : Sl) (M : Mem) : (sIdx2 tA wB i t2 u).f A ρ M = (tA.f ρ M fun xs M1 => ∃ ns1 : List Int, xs = ns1.map .int ∧ ns1 ≠ [] ∧ ns1.length ≤ sizeLine ∧ wB.f ρ M1 fun d M2 => ∃ ns2 : List Int, d = .tup (ns2.map .int) ∧ ns1.length + ns2.length ≤ sizeLine ∧ ∀ a, M2 a = none →
    (t2 a (ns1 ++ ns2)).f { nx := fun ρ' M' => ρ'[i]? = some (some (.ref a)) ∧ u.f A (ρ'.set i (some (.tup ((ns1 ++ ns2).map .int)))) M', rt := A.rt } (ρ.set i (some (.ref a))) M2) := rfl
theorem e_wIdxT (a : Addr) (ns : List Int) (i j : Nat) (ρ : Sl) (M : Mem) (Q : D → Mem → Prop) : (wIdxT a ns i j).f ρ M Q = (ρ[i]? = some (some (.ref a)) ∧ ∃ k, ρ[j]? = some (some (.int k)) ∧ k ∈ ns ∧ Q (.int (ns.idxOf k : Nat)) M) := rfl
theorem rel_intsV {K : PySem.W.Frag} {H : Hp} : ∀ {ns : List Int} {vs : List V}, RelDs K H (ns.map D.int) vs → vs = ns.map V.int
  | [], _, .nil => rfl
  | _ :: _, _, .cons r t => by
    cases r
    rw [rel_intsV t]; rfl
theorem intsV_rel {K : PySem.W.Frag} {H : Hp} : ∀ ns : List Int, RelDs K H (ns.map D.int) (ns.map V.int)
  | [] => .nil
  | n :: ns => .cons (.int n) (intsV_rel ns)
theorem dss_idx2 {es : List Expr} {b : Expr} {st2 : Stmt} {rest : List Stmt} {tA : WA} {wB : WE} {t2 : Addr → List Int → WS} {u : WS} {i k : Nat} {x : Str} {pos pos' p1 p2 : Pos} (hN : X.N.Nodup) (hi : X.N[i]? = some x) (hx : Loc X.env.scope x) (hA : DA X es tA) (hB : DE X b wB) (h2 : ∀ a ns, DSp X a (ns.map V.int) st2 (t2 a ns)) (hr : DSs X rest u)
    (hs : swapsWith (.BinOp (.Tuple es k p1) .Add b p2) (some (.Name x pos')) pos.line X.env = pure false := by rfl) (hf : X.fn x = true ∨ X.env.scope.names.lookup x = some .local := by first | exact .inl rfl | exact .inr rfl | assumption) :
    DSs X (.Assign [.Name x pos'] (.BinOp (.Tuple es k p1) .Add b p2) pos :: st2 :: rest) (sIdx2 tA wB i t2 u) := by
  have h1 : PS X (.Assign [.Name x pos'] (.BinOp (.Tuple es k p1) .Add b p2) pos) _ := ps_set hN hi hx (pe_op op_catF (pe_tupF hA.pa) hB.pe) hs hf
  have h2' : PS X st2 (fun D σ H => ∃ a ns, lSp' X.prog X.w X.K a (ns.map V.int) (t2 a ns) D σ H) := ⟨fun pins s σ H D I ⟨a, ns, h⟩ => (h2 a ns).ps.run pins s σ H D I h⟩
  refine ⟨PSs.imp (pss_cons h1 (pss_cons h2' hr.pss)) fun D σ H ⟨ρ, M, A, rs, rm, q, po⟩ => ?_⟩
  refine ⟨ρ, M, _, rs, rm, q, fun xs ds H1 M1 s1 m1 r1 ⟨ns1, e1, hne, hl, q1⟩ => ?_⟩
  subst e1
  have ex := rel_intsV r1
  subst ex
  refine ⟨by rw [List.length_map]; exact hl, fun p ob hp hd nf => ⟨ρ, M1, _, rs.keep ((s1.trans (Step.beside hp)).keep rm), m1.beside hp, q1, fun y d H2 M2 s2 m2 r2 ⟨ns2, e2, hz, q2⟩ => ?_⟩⟩
  subst e2
  have s12 := s1.trans ((Step.beside hp).trans s2)
  obtain ⟨hp2, hM2⟩ := s2 p _ upd_same (m1.free hp)
  cases r2 with
  | @tup b _ ys ht hrs =>
    have ey := rel_intsV hrs
    subst ey
    -- what stands behind the first row
    have go : ∀ (a : Addr) (ob : Obj) (H3 : Hp), Step H2 M2 H3 M2 → RelM X.prog X.w X.K H3 M2 → H3 a = some (.frz ob (.tup ((ns1 ++ ns2).map V.int))) → ob.dict = none → M2 a = none →
        gName i (.ref a) σ H3 ({ D with nx := (tSeq (fun D σ H => ∃ a ns, lSp' X.prog X.w X.K a (ns.map V.int) (t2 a ns) D σ H) (lS X.prog X.w X.K u)) D } : Ends).nx := fun a ob H3 s3 m3 ha hd3 hM3 => by
      have s13 := s12.trans s3
      refine ⟨a, ns1 ++ ns2, ρ.set i (some (.ref a)), M2, _, (rs.keep (s13.keep rm)).set i (.ref a), m3, ⟨⟨ob, ha, hd3⟩, hM3⟩, q2 a hM3, ?_⟩
      refine ⟨fun σ' ρ' H' M' s' m' r' ⟨e, qu⟩ => ?_, fun v d H' M' s' m' r' q' => po.rt v d H' M' (s13.trans s') m' r' q', fun _ _ _ _ _ _ _ z => z.elim, fun _ _ _ _ _ _ _ z => z.elim⟩
      obtain ⟨h1, _⟩ := s' a _ ha hM3
      obtain ⟨v, f1, g1⟩ := r'.2 i _ e
      cases g1
      have hset : σ'.set i (some (.ref a)) = σ' := by
        refine List.ext_getElem? fun j => ?_
        rw [List.getElem?_set]
        split
        · next hj =>
          subst hj
          have hlt := (List.getElem?_eq_some_iff.mp f1).1
          rw [if_pos hlt, f1]
        · rfl
      have r'' := r'.set i (RelD.tup (xs := (ns1 ++ ns2).map V.int) (.inr (.inr ⟨ob, h1⟩)) (intsV_rel (ns1 ++ ns2)))
      rw [hset] at r''
      exact ⟨_, M', A, r'', m', qu, po.after (s13.trans s')⟩
    refine ⟨p, b, ns1.map V.int, ns2.map V.int, ob, rfl, rfl, hp2, hd, nf, ht.sq, fun z => hne (List.map_eq_nil_iff.mp z), by rw [List.length_map, List.length_map]; exact hz, fun hy => ?_, fun hy a ob' hn hd' nf' => ?_⟩
    · have : ns2 = [] := List.map_eq_nil_iff.mp hy
      refine go p ob H2 Step.refl m2 ?_ hd hM2
      rw [this, List.append_nil]; exact hp2
    · refine go a ob' _ (Step.beside hn) (m2.beside hn) ?_ hd' (m2.free hn)
      rw [upd_same, List.map_append]
end
end MP

/-! plans put together: what the defs promise -/
namespace K31
open PySem PySem.Spec PyProof.Rows L2 MP
open PL (Bar Edge Plan barD barsD edgeD planD boundsD edgesD okP drP okB okBs okE okNs sg sgs isD)
abbrev PR := Int × Int
abbrev r__law_bars : WN := PL.r__law_bars
abbrev w__law_bars : WS := PL.w__law_bars
abbrev r__law_plan : WN := PL.r__law_plan2
abbrev w__law_plan : WS := PL.w__law_plan
abbrev r__law_equal : WN := rr__law_equal 7
def r_law : WN := ⟨fun ds M Q => (∃ ns : List Int, ds = [.fl (ns.map .int)] ∧ ns.length ≤ 63) ∧ ∀ M', Q (.bl true) M', fun _ _ _ _ h q => ⟨q.1, fun M' => h _ _ (q.2 M')⟩⟩
/-- sorted, as data -/
noncomputable def srt {α : Type} (enc : α → D) (l : List α) : List α := Classical.choose (sort_perm enc l)
theorem srt_eq {α : Type} (enc : α → D) (l : List α) : sortD (l.map enc) = (srt enc l).map enc := (Classical.choose_spec (sort_perm enc l)).1
theorem srt_perm {α : Type} (enc : α → D) (l : List α) : (srt enc l).Perm l := (Classical.choose_spec (sort_perm enc l)).2
/-! ### bars and edges with clocks counted from another one on -/
def shb (k : Int) (b : Bar) : Bar := (b.1 + k, b.2.1, b.2.2)
def shB (k : Int) (bs : List Bar) : List Bar := bs.map (shb k)
def shI (k : Int) (l : List Int) : List Int := l.map (· + k)
def shE (k : Int) (e : Edge) : Edge := ⟨e.s, e.d, shB k e.bars, shI k e.rs, e.g⟩
/-- a step of both: the deed, the bars, the clocks, the states behind it -/
structure Stp where
  d : Int
  bars : List Bar
  rs : List Int
  p : PR
def stD (s : Stp) : D := .tup [.int s.d, barsD s.bars, isD s.rs, ipD s.p]
noncomputable def bothF (two : Plan) (q : Int) (e : Edge) : List Stp := (two.edges.filter fun f => decide (f.s = q) && decide (f.d = e.d)).map fun f => ⟨e.d, srt barD (e.bars ++ shB 1 f.bars), e.rs ++ shI 1 f.rs, (e.g, f.g)⟩
def hasD (p : Plan) (d : Int) : Bool := p.edges.any fun e => decide (e.d = d)
noncomputable def oneF (two : Plan) (p : PR) (e : Edge) : List Stp := if e.s = p.1 then (if hasD two e.d = true then bothF two p.2 e else [⟨e.d, e.bars, e.rs, (e.g, p.2)⟩]) else []
noncomputable def aloneF (one two : Plan) (p : PR) : List Stp := (two.edges.filter fun f => decide (f.s = p.2) && !hasD one f.d).map fun f => ⟨f.d, shB 1 f.bars, shI 1 f.rs, (p.1, f.g)⟩
noncomputable def JL (one two : Plan) (p : PR) : List Stp := (one.edges.map (oneF two p)).flatten ++ aloneF one two p
noncomputable def JS (one two : Plan) (p : PR) : List Stp := srt stD (JL one two p)
/-! ### the states as they come -/
abbrev Ste := List PR × List D
def ix (ord : List PR) (p : PR) : Int := ((ord.idxOf p : Nat) : Int)
def edAt (at_ : Nat) (ord : List PR) (s : Stp) : D := edgeD ⟨((at_ : Nat) : Int), s.d, s.bars, s.rs, ix ord s.p⟩
def addO (ord : List PR) (p : PR) : List PR := if p ∈ ord then ord else ord ++ [p]
def addX (es : List D) (e : D) : List D := if es.any (fun x => eqD x e) = true then es else es ++ [e]
def addS (at_ : Nat) (st : Ste) (s : Stp) : Ste := (addO st.1 s.p, addX st.2 (edAt at_ (addO st.1 s.p) s))
noncomputable def turnF (one two : Plan) (at_ : Nat) (st : Ste) : Ste := match st.1[at_]? with
  | some p => (JS one two p).foldl (addS at_) st
  | none => st
noncomputable def bfs (one two : Plan) : Nat → Ste
  | 0 => ([(0, 0)], [])
  | n + 1 => turnF one two n (bfs one two n)
def bAt (p : Plan) (i : Int) : List Bar := p.bounds[i.toNat]?.getD []
noncomputable def jb (one two : Plan) (p : PR) : List Bar := srt barD (bAt one p.1 ++ shB 1 (bAt two p.2))
def jends (one two : Plan) (ord : List PR) : List Int := ((List.range ord.length).filter fun k => match ord[k]? with
  | some p => decide (p.1 ∈ one.ends) && decide (p.2 ∈ two.ends)
  | none => false).map fun (k : Nat) => (k : Int)
noncomputable def joinedD (one two : Plan) (st : Ste) : D := .tup [.int 2, .tup (st.1.map fun p => barsD (jb one two p)), .tup (sortD st.2), isD (jends one two st.1)]
noncomputable def joinedF (one two : Plan) : Option D := if one.c + two.c > 2 then none else if (bfs one two 16).1.length > 4 ∨ (bfs one two 16).2.length > 8 then none else some (joinedD one two (bfs one two 16))
def oD (o : Option D) : D := o.getD .non
/-! ### promises -/
structure okJ (one two : Plan) : Prop where
  h1 : drP 2 one
  h2 : drP 2 two
  c : two.c = 1
structure okS (one two : Plan) : Prop extends okJ one two where
  c1 : one.c = 1
def okPr (one two : Plan) (p : PR) : Prop := (0 ≤ p.1 ∧ p.1 < one.bounds.length) ∧ 0 ≤ p.2 ∧ p.2 < two.bounds.length
def r_deeds_of : WN := nOf (fun (p : Plan) ds _ => ds = [planD p] ∧ drP 2 p) fun p _ d => ∃ l : List Int, d = isD l ∧ l.length ≤ 8 ∧ ∀ x, x ∈ l ↔ hasD p x = true
def r_shifted : WN := nOf (fun (x : List Bar × Int) ds _ => ds = [barsD x.1, .int x.2] ∧ x.1.length ≤ 8) fun x _ d => d = barsD (shB x.2 x.1)
def r_shifted_edge : WN := nOf (fun (x : Edge × Int) ds _ => ds = [edgeD x.1, .int x.2] ∧ x.1.bars.length ≤ 8 ∧ x.1.rs.length ≤ 8) fun x _ d => d = edgeD (shE x.2 x.1)
def jA (x : (Plan × Plan) × PR) (ds : List D) (_ : Mem) : Prop := ds = [planD x.1.1, planD x.1.2, ipD x.2] ∧ okS x.1.1 x.1.2
def r_joint_steps : WN := nNewOf jA fun x _ o => o = .lst ((JS x.1.1 x.1.2 x.2).map stD)
def r__law_joint : WN := nNewOf jA fun x _ o => o = .lst ((JS x.1.1 x.1.2 x.2).map stD)
def bA (x : Plan × Plan) (ds : List D) (_ : Mem) : Prop := ds = [planD x.1, planD x.2] ∧ okJ x.1 x.2
def r_joined_plan : WNX := ⟨fun ds M Q E => ∃ x, bA x ds M ∧ (∀ d, joinedF x.1 x.2 = some d → Q d M) ∧ (joinedF x.1 x.2 = none → E "TooMany" [] M), fun ds M Q Q' E E' h i ⟨x, a, b, c⟩ => ⟨x, a, fun d e => h _ _ (b d e), fun e => i _ _ _ (c e)⟩⟩
def r__law_joined : WN := nOf bA fun x _ d => d = oD (joinedF x.1 x.2)
def r__law_told : WN := nOf bA fun x _ d => d = oD (joinedF x.1 x.2)
def r__law_shifted : WN := nOf (fun (e : Edge) ds _ => ds = [edgeD e] ∧ e.bars.length ≤ 8 ∧ e.rs.length ≤ 8) fun e _ d => d = edgeD (shE 1 e)
def nsD (ns : List Nat) : D := .tup (ns.map fun k => .int ((k : Nat) : Int))
def nAt (ns : List Nat) (s : Int) : Int := ((ns[s.toNat]?.getD 0 : Nat) : Int)
def reE (ns : List Nat) (e : Edge) : Edge := ⟨nAt ns e.s, e.d, e.bars, e.rs, nAt ns e.g⟩
def ordB (p : Plan) (ns : List Nat) : List (List Bar) := (List.range p.bounds.length).map fun k => p.bounds[ns.idxOf k]?.getD []
noncomputable def orderD (p : Plan) (ns : List Nat) : D := .tup [.int p.c, boundsD (ordB p ns), .tup (sortD (p.edges.map fun e => edgeD (reE ns e))), .tup (sortD (p.ends.map fun s => .int (nAt ns s)))]
def r_with_order : WN := nOf (fun (x : Plan × List Nat) ds _ => ds = [planD x.1, nsD x.2] ∧ drP 2 x.1 ∧ x.2.Perm (List.range x.1.bounds.length)) fun x _ d => d = orderD x.1 x.2
def r_with_one_clock_more : WN := nOf (fun (p : Plan) ds _ => ds = [planD p] ∧ drP 2 p) fun p _ d => d = .tup [.int 2, boundsD p.bounds, edgesD p.edges, isD p.ends]
def r__law_turned : WN := nDrOf 4 (fun (n : Nat) ds _ => ∃ p, ds = [.ref p, .int ((n : Nat) : Int)] ∧ n ≤ 4) fun n M d M' => ∃ ns : List Nat, d = nsD ns ∧ ns.Perm (List.range n)
end K31

namespace K31
open PySem PySem.Spec PyProof.Rows L2 MP 
/-! the readings, as gen.py printed them -/
def w_deeds_of : WS :=
    sRet (wCB nTuple (aCons (wCB nSortedK (aCons (wDn (iSeq (wOp rIx (wVar 0) (wC (.int 2)))) (gN 1) (wtYes) (wOp rIx (wVar 1) (wC (.int 1))) (wC (.bl true)) [1]) (aNil))) (aNil)))
def w_shifted : WS :=
    sRet (wCB nTuple (aCons (wLc (iSeq (wVar 0)) (gT (gsCons (gN 2) (gsCons (gN 3) (gsCons (gN 4) (gsNil))))) (wtYes) (wTup (aCons (wOp rAdd (wVar 2) (wVar 1)) (aCons (wVar 3) (aCons (wVar 4) (aNil))))) [2, 3, 4]) (aNil)))
def w_shifted_edge : WS :=
    sSeq (sAsg (wVar 0) (gT (gsCons (gN 2) (gsCons (gN 3) (gsCons (gN 4) (gsCons (gN 5) (gsCons (gN 6) (gsNil))))))))
    (sRet (wTup (aCons (wVar 2) (aCons (wVar 3) (aCons (wCB r_shifted (aCons (wVar 4) (aCons (wVar 1) (aNil)))) (aCons (wCB nTuple (aCons (wLc (iSeq (wVar 5)) (gN 7) (wtYes) (wOp rAdd (wVar 7) (wVar 1)) [7]) (aNil))) (aCons (wVar 6) (aNil))))))))
def w_joint_steps : WS :=
    sSeq (sAsg (wLc (iSeq (wCB r_deeds_of (aCons (wVar 0) (aNil)))) (gN 7) (wtB (wOp rIn (wVar 7) (wCB r_deeds_of (aCons (wVar 1) (aNil))))) (wVar 7) [7]) (gN 3))
    (sSeq (sAsg (wLst (aNil)) (gN 4))
    (sSeq (sAsg (wLc (iSeq (wOp rIx (wVar 1) (wC (.int 2)))) (gN 17) (wtB (wOp rEq (wOp rIx (wVar 17) (wC (.int 0))) (wOp rIx (wVar 2) (wC (.int 1))))) (wCB r_shifted_edge (aCons (wVar 17) (aCons (wOp rIx (wVar 0) (wC (.int 0))) (aNil)))) [17]) (gN 5))
    (sSeq (sFor (iSeq (wOp rIx (wVar 0) (wC (.int 2)))) (gT (gsCons (gN 6) (gsCons (gN 7) (gsCons (gN 8) (gsCons (gN 9) (gsCons (gN 10) (gsNil))))))) (sIf (wtAnd (wtB (wOp rEq (wVar 6) (wOp rIx (wVar 2) (wC (.int 0))))) (wtB (wOp rNotIn (wVar 7) (wVar 3)))) (sDrop (wBM "list" mAppend (wVar 4) (aCons (wTup (aCons (wVar 7) (aCons (wVar 8) (aCons (wVar 9) (aCons (wTup (aCons (wVar 10) (aCons (wOp rIx (wVar 2) (wC (.int 1))) (aNil)))) (aNil)))))) (aNil)))) (sIf (wtB (wOp rEq (wVar 6) (wOp rIx (wVar 2) (wC (.int 0))))) (sFor (iSeq (wVar 5)) (gT (gsCons (gN 11) (gsCons (gN 12) (gsCons (gN 13) (gsCons (gN 14) (gsCons (gN 15) (gsNil))))))) (sIf (wtB (wOp rEq (wVar 12) (wVar 7))) (sDrop (wBM "list" mAppend (wVar 4) (aCons (wTup (aCons (wVar 7) (aCons (wCB nTuple (aCons (wCB nSortedT (aCons (wOp rAdd (wVar 8) (wVar 13)) (aNil))) (aNil))) (aCons (wOp rAdd (wVar 9) (wVar 14)) (aCons (wTup (aCons (wVar 10) (aCons (wVar 15) (aNil)))) (aNil)))))) (aNil)))) (sNil))) (sNil))))
    (sSeq (sAsg (wLc (iSeq (wVar 5)) (gN 18) (wtB (wOp rNotIn (wOp rIx (wVar 18) (wC (.int 1))) (wVar 3))) (wVar 18) [18]) (gN 16))
    (sSeq (sDrop (wBM "list" mExtend (wVar 4) (aCons (wLc (iSeq (wVar 16)) (gT (gsCons (gN 11) (gsCons (gN 7) (gsCons (gN 8) (gsCons (gN 14) (gsCons (gN 15) (gsNil))))))) (wtYes) (wTup (aCons (wVar 7) (aCons (wVar 8) (aCons (wVar 14) (aCons (wTup (aCons (wOp rIx (wVar 2) (wC (.int 0))) (aCons (wVar 15) (aNil)))) (aNil)))))) [11, 7, 8, 14, 15]) (aNil))))
    (sRet (wCB nSorted (aCons (wVar 4) (aNil)))))))))
def w_joined_plan (ex : XD) : WS :=
    sSeq (sIf (wtB (wOp rGt (wOp rAdd (wOp rIx (wVar 0) (wC (.int 0))) (wOp rIx (wVar 1) (wC (.int 0)))) (wC (.int 2)))) (sRaise ex "TooMany") (sNil))
    (sSeq (sAsg (wLst (aCons (wTup (aCons (wC (.int 0)) (aCons (wC (.int 0)) (aNil)))) (aNil))) (gN 2))
    (sSeq (sAsg (wDNew) (gN 3))
    (sSeq (sAsg (wC (.int 0)) (gN 4))
    (sSeq (sWhile (wtB (wOp rLt (wVar 4) (wCB nLen (aCons (wVar 2) (aNil))))) (sSeq (sFor (iSeq (wCB r_joint_steps (aCons (wVar 0) (aCons (wVar 1) (aCons (wOp rIx (wVar 2) (wVar 4)) (aNil)))))) (gT (gsCons (gN 5) (gsCons (gN 6) (gsCons (gN 7) (gsCons (gN 8) (gsNil)))))) (sSeq (sIf (wtB (wOp rNotIn (wVar 8) (wVar 2))) (sSeq (sDrop (wBM "list" mAppend (wVar 2) (aCons (wVar 8) (aNil))))
    (sIf (wtB (wOp rGt (wCB nLen (aCons (wVar 2) (aNil))) (wC (.int 4)))) (sRaise ex "TooMany") (sNil))) (sNil))
    (sAsg (wC (.bl true)) (gSubD (wVar 3) (wTup (aCons (wVar 4) (aCons (wVar 5) (aCons (wVar 6) (aCons (wVar 7) (aCons (wBM "list" mIndex (wVar 2) (aCons (wVar 8) (aNil))) (aNil)))))))))))
    (sAug 4 (wC (.int 1)) rIadd)))
    (sSeq (sIf (wtB (wOp rGt (wCB nLen (aCons (wVar 3) (aNil))) (wC (.int 8)))) (sRaise ex "TooMany") (sNil))
    (sSeq (sAsg (wLc (iSeq (wVar 2)) (gT (gsCons (gN 11) (gsCons (gN 12) (gsNil)))) (wtYes) (wCB nTuple (aCons (wCB nSortedT (aCons (wOp rAdd (wOp rIx (wOp rIx (wVar 0) (wC (.int 1))) (wVar 11)) (wCB r_shifted (aCons (wOp rIx (wOp rIx (wVar 1) (wC (.int 1))) (wVar 12)) (aCons (wOp rIx (wVar 0) (wC (.int 0))) (aNil))))) (aNil))) (aNil))) [11, 12]) (gN 9))
    (sSeq (sAsg (wLc (iEnumL (aCons (wVar 2) (aNil))) (gT (gsCons (gN 13) (gsCons (gT (gsCons (gN 11) (gsCons (gN 12) (gsNil)))) (gsNil)))) (wtAnd (wtB (wOp rIn (wVar 11) (wOp rIx (wVar 0) (wC (.int 3))))) (wtB (wOp rIn (wVar 12) (wOp rIx (wVar 1) (wC (.int 3)))))) (wVar 13) [13, 11, 12]) (gN 10))
    (sRet (wTup (aCons (wOp rAdd (wOp rIx (wVar 0) (wC (.int 0))) (wOp rIx (wVar 1) (wC (.int 0)))) (aCons (wCB nTuple (aCons (wVar 9) (aNil))) (aCons (wCB nTuple (aCons (wCB nSortedK (aCons (wVar 3) (aNil))) (aNil))) (aCons (wCB nTuple (aCons (wVar 10) (aNil))) (aNil))))))))))))))
def w_with_order : WS :=
    sSeq (sAsg (wOp rMulA (wLst (aCons (wTup (aNil)) (aNil))) (wCB nLen (aCons (wVar 1) (aNil)))) (gN 2))
    (sSeq (sFor (iEnumT (aCons (wVar 1) (aNil))) (gT (gsCons (gN 3) (gsCons (gN 4) (gsNil)))) (sAsg (wOp rIx (wOp rIx (wVar 0) (wC (.int 1))) (wVar 3)) (gSubD (wVar 2) (wVar 4))))
    (sSeq (sAsg (wLc (iSeq (wOp rIx (wVar 0) (wC (.int 2)))) (gT (gsCons (gN 3) (gsCons (gN 6) (gsCons (gN 7) (gsCons (gN 8) (gsCons (gN 9) (gsNil))))))) (wtYes) (wTup (aCons (wOp rIx (wVar 1) (wVar 3)) (aCons (wVar 6) (aCons (wVar 7) (aCons (wVar 8) (aCons (wOp rIx (wVar 1) (wVar 9)) (aNil))))))) [3, 6, 7, 8, 9]) (gN 5))
    (sRet (wTup (aCons (wOp rIx (wVar 0) (wC (.int 0))) (aCons (wCB nTuple (aCons (wVar 2) (aNil))) (aCons (wCB nTuple (aCons (wCB nSorted (aCons (wVar 5) (aNil))) (aNil))) (aCons (wCB nTuple (aCons (wCB nSorted (aCons (wLc (iSeq (wOp rIx (wVar 0) (wC (.int 3)))) (gN 3) (wtYes) (wOp rIx (wVar 1) (wVar 3)) [3]) (aNil))) (aNil))) (aNil)))))))))
def w_with_one_clock_more : WS :=
    sRet (wTup (aCons (wC (.int 2)) (aCons (wOp rIx (wVar 0) (wC (.int 1))) (aCons (wOp rIx (wVar 0) (wC (.int 2))) (aCons (wOp rIx (wVar 0) (wC (.int 3))) (aNil))))))
def w__law_shifted : WS :=
    sSeq (sAsg (wCB nTuple (aCons (wLc (iSeq (wOp rIx (wVar 0) (wC (.int 2)))) (gT (gsCons (gN 2) (gsCons (gN 3) (gsCons (gN 4) (gsNil))))) (wtYes) (wTup (aCons (wOp rAdd (wVar 2) (wC (.int 1))) (aCons (wVar 3) (aCons (wVar 4) (aNil))))) [2, 3, 4]) (aNil))) (gN 1))
    (sRet (wOp rAdd (wSl (wVar 0) oNone (oSome (wC (.int 2)))) (wTup (aCons (wVar 1) (aCons (wCB nTuple (aCons (wLc (iSeq (wOp rIx (wVar 0) (wC (.int 3)))) (gN 2) (wtYes) (wOp rAdd (wVar 2) (wC (.int 1))) [2]) (aNil))) (aCons (wOp rIx (wVar 0) (wC (.int 4))) (aNil)))))))
def w__law_joint : WS :=
    sSeq (sAsg (wLst (aNil)) (gN 3))
    (sSeq (sAsg (wLc (iSeq (wOp rIx (wVar 0) (wC (.int 2)))) (gN 6) (wtYes) (wOp rIx (wVar 6) (wC (.int 1))) [6]) (gN 4))
    (sSeq (sAsg (wLc (iSeq (wOp rIx (wVar 1) (wC (.int 2)))) (gN 6) (wtYes) (wOp rIx (wVar 6) (wC (.int 1))) [6]) (gN 5))
    (sSeq (sFor (iSeq (wOp rIx (wVar 0) (wC (.int 2)))) (gN 6) (sSeq (sIf (wtAnd (wtB (wOp rEq (wOp rIx (wVar 6) (wC (.int 0))) (wOp rIx (wVar 2) (wC (.int 0))))) (wtB (wOp rNotIn (wOp rIx (wVar 6) (wC (.int 1))) (wVar 5)))) (sDrop (wBM "list" mAppend (wVar 3) (aCons (wTup (aCons (wOp rIx (wVar 6) (wC (.int 1))) (aCons (wOp rIx (wVar 6) (wC (.int 2))) (aCons (wOp rIx (wVar 6) (wC (.int 3))) (aCons (wTup (aCons (wOp rIx (wVar 6) (wC (.int 4))) (aCons (wOp rIx (wVar 2) (wC (.int 1))) (aNil)))) (aNil)))))) (aNil)))) (sNil))
    (sFor (iSeq (wOp rIx (wVar 1) (wC (.int 2)))) (gN 7) (sIf (wtAnd (wtB (wOp rEq (wOp rIx (wVar 6) (wC (.int 0))) (wOp rIx (wVar 2) (wC (.int 0))))) (wtAnd (wtB (wOp rEq (wOp rIx (wVar 7) (wC (.int 0))) (wOp rIx (wVar 2) (wC (.int 1))))) (wtB (wOp rEq (wOp rIx (wVar 6) (wC (.int 1))) (wOp rIx (wVar 7) (wC (.int 1))))))) (sSeq (sAsg (wCB r__law_shifted (aCons (wVar 7) (aNil))) (gN 8))
    (sDrop (wBM "list" mAppend (wVar 3) (aCons (wTup (aCons (wOp rIx (wVar 6) (wC (.int 1))) (aCons (wCB nTuple (aCons (wCB nSortedT (aCons (wOp rAdd (wOp rIx (wVar 6) (wC (.int 2))) (wOp rIx (wVar 8) (wC (.int 2)))) (aNil))) (aNil))) (aCons (wOp rAdd (wOp rIx (wVar 6) (wC (.int 3))) (wOp rIx (wVar 8) (wC (.int 3)))) (aCons (wTup (aCons (wOp rIx (wVar 6) (wC (.int 4))) (aCons (wOp rIx (wVar 7) (wC (.int 4))) (aNil)))) (aNil)))))) (aNil))))) (sNil)))))
    (sSeq (sFor (iSeq (wOp rIx (wVar 1) (wC (.int 2)))) (gN 7) (sIf (wtAnd (wtB (wOp rEq (wOp rIx (wVar 7) (wC (.int 0))) (wOp rIx (wVar 2) (wC (.int 1))))) (wtB (wOp rNotIn (wOp rIx (wVar 7) (wC (.int 1))) (wVar 4)))) (sSeq (sAsg (wCB r__law_shifted (aCons (wVar 7) (aNil))) (gN 8))
    (sDrop (wBM "list" mAppend (wVar 3) (aCons (wTup (aCons (wOp rIx (wVar 7) (wC (.int 1))) (aCons (wOp rIx (wVar 8) (wC (.int 2))) (aCons (wOp rIx (wVar 8) (wC (.int 3))) (aCons (wTup (aCons (wOp rIx (wVar 2) (wC (.int 0))) (aCons (wOp rIx (wVar 7) (wC (.int 4))) (aNil)))) (aNil)))))) (aNil))))) (sNil)))
    (sRet (wCB nSorted (aCons (wVar 3) (aNil))))))))
def w__law_joined : WS :=
    sSeq (sIf (wtB (wOp rGt (wOp rAdd (wOp rIx (wVar 0) (wC (.int 0))) (wOp rIx (wVar 1) (wC (.int 0)))) (wC (.int 2)))) (sRet (wC .non)) (sNil))
    (sSeq (sAsg (wLst (aCons (wTup (aCons (wC (.int 0)) (aCons (wC (.int 0)) (aNil)))) (aNil))) (gN 2))
    (sSeq (sAsg (wLst (aNil)) (gN 3))
    (sSeq (sFor (iR1 (aCons (wC (.int 16)) (aNil))) (gN 4) (sIf (wtB (wOp rLt (wVar 4) (wCB nLen (aCons (wVar 2) (aNil))))) (sFor (iSeq (wCB r__law_joint (aCons (wVar 0) (aCons (wVar 1) (aCons (wOp rIx (wVar 2) (wVar 4)) (aNil)))))) (gT (gsCons (gN 5) (gsCons (gN 6) (gsCons (gN 7) (gsCons (gN 8) (gsNil)))))) (sSeq (sIf (wtB (wOp rNotIn (wVar 8) (wVar 2))) (sDrop (wBM "list" mAppend (wVar 2) (aCons (wVar 8) (aNil)))) (sNil))
    (sSeq (sAsg (wTup (aCons (wVar 4) (aCons (wVar 5) (aCons (wVar 6) (aCons (wVar 7) (aCons (wBM "list" mIndex (wVar 2) (aCons (wVar 8) (aNil))) (aNil))))))) (gN 9))
    (sIf (wtB (wOp rNotIn (wVar 9) (wVar 3))) (sDrop (wBM "list" mAppend (wVar 3) (aCons (wVar 9) (aNil)))) (sNil))))) (sNil)))
    (sSeq (sIf (wtOr (wtB (wOp rGt (wCB nLen (aCons (wVar 2) (aNil))) (wC (.int 4)))) (wtB (wOp rGt (wCB nLen (aCons (wVar 3) (aNil))) (wC (.int 8))))) (sRet (wC .non)) (sNil))
    (sSeq (sAsg (wTup (aNil)) (gN 10))
    (sSeq (sFor (iSeq (wVar 2)) (gT (gsCons (gN 11) (gsCons (gN 12) (gsNil)))) (sAsg (wOp rAdd (wVar 10) (wTup (aCons (wCB nTuple (aCons (wCB nSortedT (aCons (wOp rAdd (wOp rIx (wOp rIx (wVar 0) (wC (.int 1))) (wVar 11)) (wCB nTuple (aCons (wLc (iSeq (wOp rIx (wOp rIx (wVar 1) (wC (.int 1))) (wVar 12))) (gT (gsCons (gN 14) (gsCons (gN 15) (gsCons (gN 16) (gsNil))))) (wtYes) (wTup (aCons (wOp rAdd (wVar 14) (wC (.int 1))) (aCons (wVar 15) (aCons (wVar 16) (aNil))))) [14, 15, 16]) (aNil)))) (aNil))) (aNil))) (aNil)))) (gN 10)))
    (sSeq (sAsg (wCB nTuple (aCons (wLc (iR1 (aCons (wCB nLen (aCons (wVar 2) (aNil))) (aNil))) (gN 17) (wtAnd (wtB (wOp rIn (wOp rIx (wOp rIx (wVar 2) (wVar 17)) (wC (.int 0))) (wOp rIx (wVar 0) (wC (.int 3))))) (wtB (wOp rIn (wOp rIx (wOp rIx (wVar 2) (wVar 17)) (wC (.int 1))) (wOp rIx (wVar 1) (wC (.int 3)))))) (wVar 17) [17]) (aNil))) (gN 13))
    (sRet (wTup (aCons (wC (.int 2)) (aCons (wVar 10) (aCons (wCB nTuple (aCons (wCB nSorted (aCons (wVar 3) (aNil))) (aNil))) (aCons (wVar 13) (aNil))))))))))))))
def w__law_told : WS :=
    sSeq (sTryN r_joined_plan (aCons (wVar 0) (aCons (wVar 1) (aNil))) "TooMany" 2)
    (sRet (wC (.int 0)))
def w__law_turned : WS :=
    sSeq (sAsg (wCB nListR (aCons (wCB nRng1 (aCons (wVar 1) (aNil))) (aNil))) (gN 2))
    (sSeq (sAsg (wTup (aNil)) (gN 3))
    (sSeq (sFor (iR1 (aCons (wVar 1) (aNil))) (gN 4) (sAsg (wOp rAdd (wVar 3) (wTup (aCons (wBM "list" mPop (wVar 2) (aCons (wCB r__law_draw (aCons (wVar 0) (aCons (wCB nLen (aCons (wVar 2) (aNil))) (aNil)))) (aNil))) (aNil)))) (gN 3)))
    (sRet (wVar 3))))
def w_law : WS :=
    sSeq (sAsg (wCB r__law_pool (aCons (wVar 0) (aNil))) (gN 1))
    (sSeq (sFor (iR1 (aCons (wC (.int 4)) (aNil))) (gN 2) (sSeq (sAsg (wCB r__law_plan (aCons (wVar 1) (aCons (wOp rAdd (wC (.int 1)) (wCB nInt (aCons (wOp rEq (wCB r__law_draw (aCons (wVar 1) (aCons (wC (.int 9)) (aNil)))) (wC (.int 0))) (aNil)))) (aCons (wC (.int 2)) (aCons (wC (.int 2)) (aNil)))))) (gN 3))
    (sSeq (sAsg (wCB r__law_plan (aCons (wVar 1) (aCons (wC (.int 1)) (aCons (wOp rAdd (wC (.int 2)) (wCB nInt (aCons (wOp rEq (wCB r__law_draw (aCons (wVar 1) (aCons (wC (.int 3)) (aNil)))) (wC (.int 0))) (aNil)))) (aCons (wC (.int 2)) (aNil)))))) (gN 4))
    (sSeq (sIf (wtNot (wtB (wCB r__law_equal (aCons (wCB r__law_told (aCons (wVar 3) (aCons (wVar 4) (aNil)))) (aCons (wCB r__law_joined (aCons (wVar 3) (aCons (wVar 4) (aNil)))) (aNil)))))) (sRet (wC (.bl false))) (sNil))
    (sSeq (sAsg (wCB nLen (aCons (wOp rIx (wVar 4) (wC (.int 1))) (aNil))) (gN 5))
    (sIdx2 (aCons (wC (.int 0)) (aNil)) (wCB nTuple (aCons (wLc (iSeq (wCB r__law_turned (aCons (wVar 1) (aCons (wOp rSub (wVar 5) (wC (.int 1))) (aNil))))) (gN 9) (wtYes) (wOp rAdd (wC (.int 1)) (wVar 9)) [9]) (aNil))) 6 (fun a is => sAsg (wCB nTuple (aCons (wLc (iR1 (aCons (wVar 5) (aNil))) (gN 10) (wtYes) (wOp rIx (wOp rIx (wVar 4) (wC (.int 1))) (wIdxT a is 6 10)) [10]) (aNil))) (gN 7)) (sSeq (sAsg (wCB nSorted (aCons (wLc (iSeq (wOp rIx (wVar 4) (wC (.int 2)))) (gN 11) (wtYes) (wOp rAdd (wOp rAdd (wTup (aCons (wOp rIx (wVar 6) (wOp rIx (wVar 11) (wC (.int 0)))) (aNil))) (wSl (wVar 11) (oSome (wC (.int 1))) (oSome (wC (.int 4))))) (wTup (aCons (wOp rIx (wVar 6) (wOp rIx (wVar 11) (wC (.int 4)))) (aNil)))) [11]) (aNil))) (gN 8))
    (sSeq (sIf (wtNot (wtB (wCB r__law_equal (aCons (wCB r_with_order (aCons (wVar 4) (aCons (wVar 6) (aNil)))) (aCons (wTup (aCons (wC (.int 1)) (aCons (wVar 7) (aCons (wCB nTuple (aCons (wVar 8) (aNil))) (aCons (wCB nTuple (aCons (wCB nSorted (aCons (wLc (iSeq (wOp rIx (wVar 4) (wC (.int 3)))) (gN 10) (wtYes) (wOp rIx (wVar 6) (wVar 10)) [10]) (aNil))) (aNil))) (aNil)))))) (aNil)))))) (sRet (wC (.bl false))) (sNil))
    (sIf (wtNot (wtB (wCB r__law_equal (aCons (wCB r_with_one_clock_more (aCons (wVar 4) (aNil))) (aCons (wOp rAdd (wTup (aCons (wC (.int 2)) (aNil))) (wSl (wVar 4) (oSome (wC (.int 1))) oNone)) (aNil)))))) (sRet (wC (.bl false))) (sNil))))))))))
    (sRet (wC (.bl true))))
end K31

namespace MP
open PySem PySem.Spec PyProof.Rows L2

/-! ### objects of a class of one's own: their attributes, methods, making -/
def putA (f : Str) (d : D) : List (Str × D) → List (Str × D)
  | [] => [(f, d)]
  | (g, x) :: r => if g = f then (g, d) :: r else (g, x) :: putA f d r
section
variable {K : PySem.W.Frag} {H H' : Hp}
theorem relFs_nil : RelFs K H [] [] := ⟨rfl, .nil⟩
theorem relFs_cases : ∀ {fs : List (Str × D)} {gs : List (Str × V)}, RelFs K H fs gs →
    (fs = [] ∧ gs = []) ∨ ∃ g x y r s, fs = (g, x) :: r ∧ gs = (g, y) :: s ∧ RelD K H x y ∧ RelFs K H r s
  | [], [], _ => .inl ⟨rfl, rfl⟩
  | [], _ :: _, h => by have := h.1; simp at this
  | _ :: _, [], h => by have := h.1; simp at this
  | (g, x) :: r, (g', y) :: s, h => by
    obtain ⟨h1, h2⟩ := h
    simp only [List.map_cons, List.cons.injEq] at h1
    obtain ⟨e, h1⟩ := h1
    cases e
    cases h2 with
    | cons a b => exact .inr ⟨g, x, y, r, s, rfl, rfl, a, h1, b⟩
theorem relFs_cons {g : Str} {x : D} {y : V} {r : List (Str × D)} {s : List (Str × V)} (a : RelD K H x y) (b : RelFs K H r s) : RelFs K H ((g, x) :: r) ((g, y) :: s) :=
  ⟨by show g :: _ = g :: _; rw [b.1], .cons a b.2⟩
theorem relFs_put {f : Str} {d : D} {v : V} (rd : RelD K H d v) : ∀ {fs : List (Str × D)} {gs : List (Str × V)}, RelFs K H fs gs → RelFs K H (putA f d fs) (L2.putF f v gs)
  | [], gs, h => by
    rcases relFs_cases h with ⟨_, e⟩ | ⟨g, x, y, r, s, e, _⟩
    · subst e; exact relFs_cons rd relFs_nil
    · cases e
  | (g, x) :: r, gs, h => by
    rcases relFs_cases h with ⟨e, _⟩ | ⟨g', x', y, r', s, e, e2, a, b⟩
    · cases e
    · cases e; subst e2
      unfold putA L2.putF
      by_cases hg : g = f
      · rw [if_pos hg, if_pos hg]; exact relFs_cons rd b
      · rw [if_neg hg, if_neg hg]; exact relFs_cons a (relFs_put rd b)
theorem relFs_get {f : Str} : ∀ {fs : List (Str × D)} {gs : List (Str × V)}, RelFs K H fs gs → (fs.lookup f = none → gs.lookup f = none) ∧ ∀ d, fs.lookup f = some d → ∃ v, gs.lookup f = some v ∧ RelD K H d v
  | [], gs, h => by
    rcases relFs_cases h with ⟨_, e⟩ | ⟨g, x, y, r, s, e, _⟩
    · subst e; exact ⟨fun _ => rfl, fun d z => by cases z⟩
    · cases e
  | (g, x) :: r, gs, h => by
    rcases relFs_cases h with ⟨e, _⟩ | ⟨g', x', y, r', s, e, e2, a, b⟩
    · cases e
    · cases e; subst e2
      obtain ⟨i1, i2⟩ := relFs_get (f := f) b
      cases hf : f == g with
      | true =>
        have l1 : List.lookup f ((g, x) :: r) = some x := by rw [List.lookup_cons, hf]
        have l2 : List.lookup f ((g, y) :: s) = some y := by rw [List.lookup_cons, hf]
        exact ⟨(fun z => by rw [l1] at z; cases z), (fun d z => by rw [l1] at z; cases z; exact ⟨_, l2, a⟩)⟩
      | false =>
        have l1 : List.lookup f ((g, x) :: r) = List.lookup f r := by rw [List.lookup_cons, hf]
        have l2 : List.lookup f ((g, y) :: s) = List.lookup f s := by rw [List.lookup_cons, hf]
        exact ⟨(fun z => by rw [l1] at z; rw [l2]; exact i1 z), (fun d z => by rw [l1] at z; rw [l2]; exact i2 d z)⟩
theorem relFs_len {fs : List (Str × D)} {gs : List (Str × V)} (h : RelFs K H fs gs) : fs.length = gs.length := by
  have := congrArg List.length h.1
  simpa using this
end
theorem keepT {H H1 H2 : Hp} (a : Keep H H1) (b : Keep H1 H2) : Keep H H2 := ⟨fun x xs h => b.1 _ _ (a.1 _ _ h), fun x o u h => b.2 _ _ _ (a.2 _ _ _ h)⟩
/-- e.f, an attribute of an object of the class cn -/
def wFld (cn f : Str) (e : WE) : WE := ⟨fun ρ M Q => e.f ρ M fun d M1 => ∃ a fs v, d = .ref a ∧ M1 a = some (.ins cn fs) ∧ fs.lookup f = some v ∧ Q v M1,
  fun ρ M Q Q' h q => e.mono _ _ _ _ (fun _ _ ⟨a, fs, v, e1, e2, e3, q⟩ => ⟨a, fs, v, e1, e2, e3, h _ _ q⟩) q⟩
/-- .. as a target -/
def gFld (cn f : Str) (e : WE) : WG := ⟨[], fun d ρ M Q => e.f ρ M fun o M1 => ∃ a fs, o = .ref a ∧ M1 a = some (.ins cn fs) ∧ fs.length < 1000 ∧ Q ρ (mupd M1 a (.ins cn (putA f d fs))),
  fun d ρ M Q Q' h q => e.mono _ _ _ _ (fun _ _ ⟨a, fs, e1, e2, e3, q⟩ => ⟨a, fs, e1, e2, e3, h _ _ q⟩) q⟩
/-- e.m(..) of an object of the class cn -/
def wMe (cn m : Str) (r : WN) (e : WE) (t : WA) : WE := ⟨fun ρ M Q => e.f ρ M fun d M1 => ∃ a fs, d = .ref a ∧ M1 a = some (.ins cn fs) ∧ fs.lookup m = none ∧ t.f ρ M1 fun ds M2 => r.f (d :: ds) M2 Q,
  fun ρ M Q Q' h q => e.mono _ _ _ _ (fun _ _ ⟨a, fs, e1, e2, e3, q⟩ => ⟨a, fs, e1, e2, e3, t.mono _ _ _ _ (fun _ _ q => r.mono _ _ _ _ h q) q⟩) q⟩
/-- cn(..): a new object, then __init__ -/
def wNew (cn : Str) (r : WN) (t : WA) : WE := ⟨fun ρ M Q => t.f ρ M fun ds M1 => ∀ a, M1 a = none → r.f (.ref a :: ds) (mupd M1 a (.ins cn [])) fun d M2 => d = .non ∧ Q (.ref a) M2,
  fun ρ M Q Q' h q => t.mono _ _ _ _ (fun _ _ q a ha => r.mono _ _ _ _ (fun _ _ q => ⟨q.1, h _ _ q.2⟩) (q a ha)) q⟩
/-- a method that may be called -/
structure CalM (P : Program) (w : World) (K : PySem.W.Frag) (mg : Str → Option Value) (base : Heap) (k : Nat) (cn m : Str) (r : WN) : Prop where
  cl : Cls K (He.ga K cn)
  ex : ∃ (f : Addr) (fd : FuncData) (ps : List Str), FnOk P w K mg base C8.CX0 k f fd ps (lSp P w K r) ∧ Meth K (He.ga K cn) m f ∧ Binds K fd ps []
/-- a class of which objects may be made -/
structure CalC (P : Program) (w : World) (K : PySem.W.Frag) (mg : Str → Option Value) (base : Heap) (k : Nat) (cn : Str) (r : WN) : Prop where
  at_ : mg cn = some (.ref (He.ga K cn))
  ex : ∃ (f : Addr) (fd : FuncData) (ps : List Str), FnOk P w K mg base C8.CX0 k f fd ps (lSp P w K r) ∧ Mk K (He.ga K cn) f ∧ Binds K fd ps []
section
variable {P : Program} {w : World} {K : PySem.W.Frag} {mg : Str → Option Value} {base : Heap} {x qual cn m : Str} {params : Arguments} {body : List Stmt} {scope : Scope} {f : Addr} {fd : FuncData} {N ps : List Str} {k : Nat} {b : WS} {r : WN}
theorem calM_of (F : FunD K x qual params body scope [] [] f fd) (S : FnScope N ps scope) (cl : Cls K (He.ga K cn)) (hm : Meth K (He.ga K cn) m f) (bd : Binds K fd ps []) (law : FnLaw N.length ps.length b r)
    (hb : ∀ (cdv : Value) (A : Around) (outer : List Env) (s : Shared) (H : Hp) (E : XK), Room k (A.deeper (envOfC qual scope s.heap.objs.size f cdv)) → DSs (cxOf C8.CX0 P w K mg base N qual scope f cdv A outer s H E) body b) :
    CalM P w K mg base (k + 1) cn m r := ⟨cl, f, fd, ps, fnok F S law hb, hm, bd⟩
theorem calC_of (F : FunD K x qual params body scope [] [] f fd) (S : FnScope N ps scope) (at_ : mg cn = some (.ref (He.ga K cn))) (mk : Mk K (He.ga K cn) f) (bd : Binds K fd ps []) (law : FnLaw N.length ps.length b r)
    (hb : ∀ (cdv : Value) (A : Around) (outer : List Env) (s : Shared) (H : Hp) (E : XK), Room k (A.deeper (envOfC qual scope s.heap.objs.size f cdv)) → DSs (cxOf C8.CX0 P w K mg base N qual scope f cdv A outer s H E) body b) :
    CalC P w K mg base (k + 1) cn r := ⟨at_, f, fd, ps, fnok F S law hb, mk, bd⟩
end
/-- an attribute of o stored: as a target -/
def gFldV (K : PySem.W.Frag) (to : TE) (f : Str) : TG := fun v σ H Q => to σ H fun x H1 => ∃ a C dx fs, x = .ref a ∧ H1 a = some (.ins C dx fs) ∧ Cls K C ∧ NoAttr K C f ∧ fs.length < 1000 ∧ Q σ (upd H1 a (.ins C dx (L2.putF f v fs)))
section
variable {X : Cx} {cn f m : Str} {o e : Expr} {es : List Expr} {we : WE} {t : WA} {r : WN} {p pos apos : Pos} {k j : Nat}
theorem pg_fld {to : TE} (ho : PE X o to) : PG X (.Attribute o f pos) (gFldV X.K to f) :=
  ⟨fun pins s σ H v u Q I r h => PySem.W.kas_attr (thn (ho.run pins s σ H _ I h) fun ov s1 ⟨x, H1, I1, r1, a, C, dx, fs, ex, ea, c, n, l, q1⟩ => by
    subst ex
    cases r1
    exact setattr_ok I1 ea c n l r fun s2 I2 => ⟨σ, _, I2, q1⟩)⟩
theorem de_fld (c : Cls X.K (He.ga X.K cn)) (n : NoAttr X.K (He.ga X.K cn) f) (he : DE X e we) (hb : attributeBase e f X.env (eval e X.env) = eval e X.env := by rfl) : DE X (.Attribute e f pos) (wFld cn f we) :=
  ⟨PE.imp (pe_fld he.pe hb) fun σ H Q ⟨ρ, M, Q', rs, rm, q, po⟩ => ⟨ρ, M, _, rs, rm, q, fun x d H1 M1 s1 m1 r1 ⟨a, fs, v, e1, e2, e3, q1⟩ => by
    subst e1
    cases r1
    obtain ⟨dx, gs, h1, h2⟩ := m1 _ _ e2
    obtain ⟨u, h3, h4⟩ := (relFs_get (f := f) h2).2 v e3
    exact ⟨a, _, dx, gs, u, rfl, h1, c, n, h3, po u v H1 M1 s1 m1 h4 q1⟩⟩⟩
theorem dg_fld (c : Cls X.K (He.ga X.K cn)) (n : NoAttr X.K (He.ga X.K cn) f) (ho : DE X o we) : DG X (.Attribute o f pos) (gFld cn f we) :=
  ⟨PG.imp (pg_fld ho.pe) fun v σ H Q ⟨d, ρ, M, Q', rd, rs, rm, q, po⟩ => ⟨ρ, M, _, rs, rm, q, fun x d' H1 M1 s1 m1 r1 ⟨a, fs, e1, e2, e3, q1⟩ => by
    subst e1
    cases r1
    obtain ⟨dx, gs, h1, h2⟩ := m1 _ _ e2
    have kw := m1.keepW (u := .ins (He.ga X.K cn) dx (L2.putF f v gs)) e2
    refine ⟨a, _, dx, gs, rfl, h1, c, n, by rw [← relFs_len h2]; exact e3, po σ ρ _ _ (s1.trans (Step.write e2)) (m1.write e2 (fun q z => by cases z) ?_) (rs.keep (keepT (s1.keep rm) kw)) SlSame.refl q1⟩
    exact ⟨dx, _, upd_same, relFs_put (rd.keep (keepT (s1.keep rm) kw)) ⟨h2.1, h2.2.keep kw⟩⟩⟩⟩
theorem de_meth (c : CalM X.prog X.w X.K X.mg X.base k cn m r) (hr : Room j X.A) (hk : k ≤ j) (ho : DE X o we) (ha : DA X (e :: es) t) {pl : Sem Bool}
    (hst : starEach (e :: es) X.env = (false, eval e X.env) :: starEach es X.env := by rfl) (hpl : (backTo pos (starEach es X.env)).any (·.1) = false := by rfl)
    (ht : eval (.Call (.Attribute o m apos) (e :: es) [] pos) X.env = (do
      let ov ← eval o X.env
      standAt apos.atName
      let (f, first) ← holding [ov] (getMethod ov m pl)
      callWith pos f first (backTo pos (starEach (e :: es) X.env)) (backToKw pos (keywordEach [] X.env))) := by rfl) : DE X (.Call (.Attribute o m apos) (e :: es) [] pos) (wMe cn m r we t) := by
  obtain ⟨f, fd, ps, F, hm, b⟩ := c.ex
  exact ⟨PE.imp (pe_meth (pl := pl) ho.pe c.cl hm F (hr.mono hk) b .nil C8.pass0 (E := C8.E0) ha.pa hst hpl ht) fun σ H Q ⟨ρ, M, Q', rs, rm, q, po⟩ => ⟨ρ, M, _, rs, rm, q, fun x d H1 M1 s1 m1 r1 ⟨a, fs, e1, e2, e3, q1⟩ => by
    subst e1
    cases r1
    obtain ⟨dx, gs, h1, h2⟩ := m1 _ _ e2
    refine ⟨a, dx, gs, rfl, h1, (relFs_get h2).1 e3, ρ, M1, _, rs.keep (s1.keep rm), m1, q1, fun vs ds H2 M2 s2 m2 r2 q2 => ?_⟩
    show lSp X.prog X.w X.K r (.ref a :: (vs ++ [])) H2 Q C8.E0
    rw [List.append_nil]
    exact ⟨.ref a :: ds, M2, Q', .cons (.ref a) r2, m2, q2, (po.after s1).after s2⟩⟩⟩
theorem de_meth0 (c : CalM X.prog X.w X.K X.mg X.base k cn m r) (hr : Room j X.A) (hk : k ≤ j) (ho : DE X o we) {pl : Sem Bool}
    (ht : eval (.Call (.Attribute o m apos) [] [] pos) X.env = (do
      let ov ← eval o X.env
      standAt apos.atName
      let (f, first) ← holding [ov] (getMethod ov m pl)
      callWith pos f first (backTo pos (starEach [] X.env)) (backToKw pos (keywordEach [] X.env))) := by rfl) : DE X (.Call (.Attribute o m apos) [] [] pos) (wMe cn m r we aNil) := by
  obtain ⟨f, fd, ps, F, hm, b⟩ := c.ex
  exact ⟨PE.imp (pe_meth0 (pl := pl) ho.pe c.cl hm F (hr.mono hk) b .nil C8.pass0 (E := C8.E0) ht) fun σ H Q ⟨ρ, M, Q', rs, rm, q, po⟩ => ⟨ρ, M, _, rs, rm, q, fun x d H1 M1 s1 m1 r1 ⟨a, fs, e1, e2, e3, q1⟩ => by
    subst e1
    cases r1
    obtain ⟨dx, gs, h1, h2⟩ := m1 _ _ e2
    exact ⟨a, dx, gs, rfl, h1, (relFs_get h2).1 e3, [.ref a], M1, Q', .cons (.ref a) .nil, m1, q1, po.after s1⟩⟩⟩
/-- what a new object leads to -/
theorem new_sp {M1 : Mem} {H1 : Hp} {Q' : D → Mem → Prop} {Q : VK} {ds : List D} {vs : List V} {a dx : Addr} (m1 : RelM X.prog X.w X.K H1 M1) (r1 : RelDs X.K H1 ds vs) (po : Post X.prog X.w X.K H1 M1 Q' Q)
    (q1 : ∀ a, M1 a = none → r.f (.ref a :: ds) (mupd M1 a (.ins cn [])) fun d M2 => d = .non ∧ Q' (.ref a) M2) (ha : H1 a = none) (hd : H1 dx = none) (ne : dx ≠ a) :
    lSp X.prog X.w X.K r (.ref a :: vs) (upd (upd H1 dx (.own a)) a (.ins (He.ga X.K cn) dx [])) (fun v H2 => v = .non ∧ Q (.ref a) H2) C8.E0 := by
  have ha2 : upd H1 dx (.own a) a = none := by rw [upd_ne ne.symm]; exact ha
  have m2 : RelM X.prog X.w X.K (upd H1 dx (.own a)) M1 := m1.beside hd
  have s2 : Step H1 M1 (upd H1 dx (.own a)) M1 := Step.beside hd
  have m3 : RelM X.prog X.w X.K (upd (upd H1 dx (.own a)) a (.ins (He.ga X.K cn) dx [])) (mupd M1 a (.ins cn [])) := m2.laid ha2 (keep_new ha2) ⟨dx, [], upd_same, relFs_nil⟩
  have s3 : Step H1 M1 (upd (upd H1 dx (.own a)) a (.ins (He.ga X.K cn) dx [])) (mupd M1 a (.ins cn [])) := s2.trans (Step.new m2 ha2 _)
  refine ⟨.ref a :: ds, _, _, .cons (.ref a) (r1.keep (s3.keep m1)), m3, q1 a (m1.free ha), fun v d H' M' st m' r' ⟨e, q'⟩ => ?_⟩
  subst e
  cases r'
  exact ⟨rfl, po (.ref a) (.ref a) H' M' (s3.trans st) m' (.ref a) q'⟩
theorem de_new (c : CalC X.prog X.w X.K X.mg X.base k cn r) (hr : Room j X.A) (hk : k + 1 ≤ j) (hg : Gl X cn) (ha : DA X (e :: es) t)
    (hdb : (cn == ("__debug__" : Str)) = false := by decide) (he : starEach (e :: es) X.env = (false, eval e X.env) :: starEach es X.env := by rfl) (hpl : (backTo pos (starEach es X.env)).any (·.1) = false := by rfl) :
    DE X (.Call (.Name cn p) (e :: es) [] pos) (wNew cn r t) := by
  obtain ⟨f, fd, ps, F, mk, b⟩ := c.ex
  exact ⟨PE.imp (pe_make mk F (hr.mono hk) hg c.at_ b .nil C8.pass0 (E := C8.E0) ha.pa hdb he hpl) fun σ H Q ⟨ρ, M, Q', rs, rm, q, po⟩ => ⟨ρ, M, _, rs, rm, q, fun vs ds H1 M1 s1 m1 r1 q1 a dx ha hd ne => by
    rw [List.append_nil]
    exact new_sp m1 r1 (po.after s1) q1 ha hd ne⟩⟩
theorem de_new0 (c : CalC X.prog X.w X.K X.mg X.base k cn r) (hr : Room j X.A) (hk : k + 1 ≤ j) (hg : Gl X cn) (hdb : (cn == ("__debug__" : Str)) = false := by decide) : DE X (.Call (.Name cn p) [] [] pos) (wNew cn r aNil) := by
  obtain ⟨f, fd, ps, F, mk, b⟩ := c.ex
  exact ⟨PE.imp (pe_make0 mk F (hr.mono hk) hg c.at_ b .nil C8.pass0 (E := C8.E0) hdb) fun σ H Q ⟨ρ, M, Q', rs, rm, q, po⟩ a dx ha hd ne => new_sp rm .nil po q ha hd ne⟩
end
end MP

namespace MP
open PySem PySem.Spec PyProof.Rows L2
/-! ### objects of own classes, for the proofs of plain laws -/
def fldF (cn f : Str) (d : D) (M : Mem) (Q : D → Prop) : Prop := ∃ a fs v, d = .ref a ∧ M a = some (.ins cn fs) ∧ fs.lookup f = some v ∧ Q v
def setF (cn f : Str) (d o : D) (M : Mem) (Q : Mem → Prop) : Prop := ∃ a fs, o = .ref a ∧ M a = some (.ins cn fs) ∧ fs.length < 1000 ∧ Q (mupd M a (.ins cn (putA f d fs)))
def meF (cn m : Str) (d : D) (M : Mem) (Q : Prop) : Prop := ∃ a fs, d = .ref a ∧ M a = some (.ins cn fs) ∧ fs.lookup m = none ∧ Q
section
variable {cn f m : Str} {e : WE} {t : WA} {r : WN} {ρ : Sl} {M : Mem} {Q : D → Mem → Prop} {G : Sl → Mem → Prop} {d : D} {p : Addr} {fs : List (Str × D)} {v : D} {A : D → Prop} {B : Mem → Prop} {C : Prop}
theorem e_wFld : (wFld cn f e).f ρ M Q = e.f ρ M fun d M1 => fldF cn f d M1 fun v => Q v M1 := rfl
theorem e_gFld : (gFld cn f e).f d ρ M G = e.f ρ M fun o M1 => setF cn f d o M1 fun M2 => G ρ M2 := rfl
theorem e_wMe : (wMe cn m r e t).f ρ M Q = e.f ρ M fun d M1 => meF cn m d M1 (t.f ρ M1 fun ds M2 => r.f (d :: ds) M2 Q) := rfl
theorem e_wNew : (wNew cn r t).f ρ M Q = t.f ρ M fun ds M1 => ∀ a, M1 a = none → r.f (.ref a :: ds) (mupd M1 a (.ins cn [])) fun d M2 => d = .non ∧ Q (.ref a) M2 := rfl
theorem fld_at (h : M p = some (.ins cn fs)) (hl : fs.lookup f = some v) : fldF cn f (.ref p) M A = A v := propext ⟨fun ⟨a, fs', v', e1, e2, e3, q⟩ => by
  cases e1; rw [h] at e2; cases e2; rw [hl] at e3; cases e3; exact q, fun q => ⟨p, fs, v, rfl, h, hl, q⟩⟩
theorem set_at (h : M p = some (.ins cn fs)) (hl : fs.length < 1000) : setF cn f d (.ref p) M B = B (mupd M p (.ins cn (putA f d fs))) := propext ⟨fun ⟨a, fs', e1, e2, e3, q⟩ => by
  cases e1; rw [h] at e2; cases e2; exact q, fun q => ⟨p, fs, rfl, h, hl, q⟩⟩
theorem me_at (h : M p = some (.ins cn fs)) (hl : fs.lookup m = none) : meF cn m (.ref p) M C = C := propext ⟨fun ⟨a, fs', e1, e2, e3, q⟩ => q, fun q => ⟨p, fs, rfl, h, hl, q⟩⟩
end
theorem mupd_id {M : Mem} {p : Addr} {o : MO} (h : M p = some o) : mupd M p o = M := by
  funext b
  unfold mupd
  split
  · rename_i e; rw [e]; exact h.symm
  · rfl
/-! ### a def that changes what it is handed -/
def nMut {α : Type} (C : α → List D → Mem → Prop) (g : α → Mem → D → Mem → Prop) : WN := ⟨fun ds M Q => ∃ x, C x ds M ∧ ∀ d M', g x M d M' → Q d M', fun _ _ _ _ h ⟨x, c, q⟩ => ⟨x, c, fun d M' hd => h _ _ (q d M' hd)⟩⟩
theorem law_mut {n k : Nat} {b : WS} {α : Type} {C : α → List D → Mem → Prop} {g : α → Mem → D → Mem → Prop} (h : ∀ x ds M, Cons M → C x ds M → ds.length = k ∧ ∀ R : D → Mem → Prop, (∀ d M', g x M d M' → R d M') → b.f (rtE R) (startD n ds) M) : FnLaw n k b (nMut C g) := fun P w K H ds M Q rm ⟨x, c, q⟩ => by
  obtain ⟨h1, h2⟩ := h x ds M rm.cons c
  exact ⟨h1, M, rm, fun _ z => z, b.mono (rtE fun d M' => g x M d M') _ _ _ ⟨fun _ M' z => ⟨M', Vw.same, q _ M' z⟩, fun d M' z => ⟨M', Vw.same, q d M' z⟩, fun _ _ z => z, fun _ _ z => z⟩ (h2 _ fun d M' a => a)⟩
end MP

namespace MP
open PySem PySem.Spec PyProof.Rows L2
/-! ### d.get(k, x), keys tuples -/
def mGetN : WM := ⟨fun d ds M Q => ∃ a kvs k z, d = .ref a ∧ ds = [k, z] ∧ M a = some (.dic kvs) ∧ k.isTup = true ∧ (∀ p ∈ kvs, p.1.isTup = true) ∧ (∃ kk, k.key = some kk ∧ kk.depth ≤ 8) ∧ Q ((dgetD kvs k).getD z) M,
  fun _ _ _ _ _ h ⟨a, kvs, k, z, e1, e2, e3, e4, e5, e6, q⟩ => ⟨a, kvs, k, z, e1, e2, e3, e4, e5, e6, h _ _ q⟩⟩
theorem getn_at {a : Addr} {kvs : List (D × D)} {k z : D} {kk : NestedKey} {M : Mem} {Q : D → Mem → Prop} (h : M a = some (.dic kvs)) (hk : k.isTup = true) (hks : ∀ p ∈ kvs, p.1.isTup = true) (hkk : k.key = some kk) (hd : kk.depth ≤ 8) (q : Q ((dgetD kvs k).getD z) M) : mGetN.f (.ref a) [k, z] M Q := ⟨a, kvs, k, z, rfl, rfl, h, hk, hks, ⟨kk, hkk, hd⟩, q⟩
section
variable {X : Cx}
theorem dm_getN (hu : X.A.units + 64 < cLine) : DM X "dict" "get" mGetN := ⟨_, PySem.F.plainAttrs_dict, PySem.F.slot_dict_get, PySem.F.type_dict_get, fun pins s σ H x xs v us Q I rx rv ⟨d, ds, M, Q', rd, rds, rm, q, po⟩ => by
  obtain ⟨a, kvs, k, z, rfl, rfl, h0, hk, hks, ⟨kk, hkk, hd8⟩, q⟩ := q
  obtain ⟨y, zz, rfl, ry, rz⟩ := rel2 rds
  rw [rel_ref rd] at rx
  cases rx
  obtain ⟨u, r, rfl, ru, rr⟩ := vals2 rv
  obtain ⟨L, dd, en, _, hd⟩ := dic_n I rm h0 hks
  have hv := en.at hkk
  obtain ⟨b, rfl⟩ := tup_rel hk ry
  cases ru
  have hn := Inv.nested I hkk ry rfl
  refine call_meetsIn PySem.F.slot_dict_get dd.typeIs PySem.F.entry_dict_get (PySem.F.args_dict_get_3 _ _ _) (meetsH_dict_get_default (nestedKind X.prog X.w) a b hd r) ⟨(show X.A.in1.units + 8 < cLine by show X.A.units + 1 + 8 < cLine; omega), kk, L, ⟨hn, hd8⟩, dd, ?_⟩
  cases g : dgetD kvs k with
  | none =>
    rw [hv.1 g]
    rw [g] at q
    exact ⟨zz, H, I.tok _, rr, po.here rm rz q⟩
  | some x =>
    obtain ⟨b', u', v', h1, h2, h3⟩ := hv.2 x g
    rw [h1]
    rw [g] at q
    exact ⟨v', H, I.tok _, h3, po.here rm h2 q⟩⟩
end
/-! ### for k, v in d.items(): d from now on as it stands -/
def iPdF (d : D) (M : Mem) (Q : List D → (Mem → Prop) → Mem → Prop) : Prop := match d with
  | .ref a => ∃ kvs, M a = some (.dic kvs) ∧ (∀ p ∈ kvs, p.1.isTup = true) ∧ ∀ t, Q (kvs.map fun p => .tup [p.1, p.2]) (fun M => M a = some (.fd kvs t)) (mupd M a (.fd kvs t))
  | _ => False
def iPd (e : WE) : WI := ⟨fun ρ M Q => e.f ρ M fun d M1 => iPdF d M1 Q, fun ρ M Q Q' h q => e.mono _ _ _ _ (fun d M q => by
  cases d <;> first | exact q.elim | (obtain ⟨kvs, e1, e2, q⟩ := q; exact ⟨kvs, e1, e2, fun t => h _ _ _ (q t)⟩)) q⟩
theorem e_iPd (e : WE) (ρ : Sl) (M : Mem) (Q : List D → (Mem → Prop) → Mem → Prop) : (iPd e).f ρ M Q = (e.f ρ M fun d M1 => iPdF d M1 Q) := rfl
theorem ipd_at {a : Addr} {kvs : List (D × D)} {M : Mem} {Q : List D → (Mem → Prop) → Mem → Prop} (h : M a = some (.dic kvs)) (hk : ∀ p ∈ kvs, p.1.isTup = true) (q : ∀ t, Q (kvs.map fun p => .tup [p.1, p.2]) (fun M => M a = some (.fd kvs t)) (mupd M a (.fd kvs t))) : iPdF (.ref a) M Q := ⟨kvs, h, hk, q⟩
section
variable {X : Cx} {we : WE}
theorem di_pd {o : Expr} {apos cpos tpos : Pos} {elts : List Expr} {kk : Nat} (ho : DE X o we) (hbase : attributeBase o "items" X.env (eval o X.env) = eval o X.env := by rfl) (hline : (apos.endLine == cpos.line) = true := by rfl) :
    DI X (.Tuple elts kk tpos) (.Call (.Attribute o "items" apos) [] [] cpos) (iPd we) := ⟨⟨fun pins s σ H R I ⟨ρ, M, Q', rs, rm, q, po⟩ => by
  refine wpAny_Call_method (T := "dict") (id := "dict.items") hbase rfl hline PySem.F.plainAttrs_dict PySem.F.slot_dict_items PySem.F.type_dict_items
    (thn (ho.pe.run pins s σ H (fun v H1 => ∃ d M1, Step H M H1 M1 ∧ RelM X.prog X.w X.K H1 M1 ∧ RelD X.K H1 d v ∧ iPdF d M1 Q') I ⟨ρ, M, _, rs, rm, q, fun v d H1 M1 s1 m1 r1 q1 => ⟨d, M1, s1, m1, r1, q1⟩⟩) fun u s1 ⟨x, H1, I1, r1, d, M1, st1, m1, rd, q1⟩ => ?_)
  cases rd with
  | ref a =>
    obtain ⟨kvs, e, hk, q2⟩ := q1
    cases r1
    obtain ⟨t, J, m2⟩ := fz_write I1 m1 e hk
    have st2 := st1.trans (Step.write (u := FzD X.prog X.w a t) (o' := .fd kvs t) e)
    obtain ⟨lo, hz, es, ep, g1, g2, g3, g4, _, g5⟩ := fz_at J upd_same
    refine ⟨⟨_, g1, g2.1⟩, fun b z => by cases z; exact ⟨_, g1, g2.2.1⟩, ?_⟩
    have I2 : Inv X pins σ (upd H1 a (FzD X.prog X.w a t)) { s1 with heap := s1.heap.push { cls := .type "dict_items", data := .fields #[.ref a] } } := J.kept (t' := s1.toks) fun b o z => Heap.get?_push_of_some _ z
    have raw : s1.heap.DictRaw a es ep := ⟨_, g1, g2, g3⟩
    have fin : wpAny (model X.prog X.w) X.A (pyIter (.ref s1.heap.objs.size)) (PIE X pins σ (.Tuple elts kk tpos) R) X.xe { s1 with heap := s1.heap.push { cls := .type "dict_items", data := .fields #[.ref a] } } := by
      refine PySem.wpAny_pyIter_items_raw (d := a) ⟨_, Heap.get?_push_size _ rfl, rfl, rfl⟩ (show Heap.DictRaw _ a es ep from ⟨_, Heap.get?_push_of_some _ g1, g2, g3⟩) (pi_one (tk := s1.toks) I2 _ (turn_p _ g3) ⟨.none, .none, ?_⟩ (po _ _ _ _ _ st2 m2 (q2 t) itok_p))
      rw [← g4]
      exact Heap.get?_push_size _ rfl
    exact method_meetsIn PySem.F.slot_dict_items PySem.F.entry_dict_items rfl (PySem.evalArgs_none ⟨rfl, ⟨_, g1, g2.1⟩, PySem.F.args_dict_items_1 _, _, PySem.meets_dict_items_raw a lo, ⟨⟨es, ep, raw⟩, fin⟩⟩)
  | _ => exact False.elim q1⟩⟩
end
end MP

namespace K31
open PySem PySem.Spec PyProof.Rows L2 MP
open PL (Bar Edge Plan barD barsD edgeD planD boundsD edgesD okP drP okB okBs okE okNs sg sgs isD deps_le edge_nb edge_dep bars_pl is_nb bars_dep is_dep edge_alike alike_bars alike_is)

local macro_rules | `(tactic| walk_at "mp1") => `(tactic| simp only [e_iPd, e_sRaise, e_sTryN, e_wFld, e_gFld, e_wMe, e_wNew, e_wVar, e_wC, e_wOp, e_wUn, e_aNil, e_aCons, e_wCB, e_wCK, e_wTup, e_wLst, e_wtB, e_wtV, e_wtNot, e_wtAnd, e_wtOr, e_wAnd, e_wOr, e_wNot, e_wIf, e_wChain, e_wSl, e_oNone, e_oSome, e_wBM, e_wLc, e_wLc2, e_wDc, e_wDn, e_wDn2, e_nRng1, e_iRg, e_wRev, e_revF_tup, e_wtYes, e_sNil, e_sSeq, e_sBreak, e_sCont, e_sDrop, e_sRet, e_sRetN, e_sIf, e_sAsg, e_sPar, e_sAug, e_sFor, e_gN, e_gsNil, e_gsCons, e_gT, e_gSubD, e_iSeq, e_iR1, e_iR2, e_iEnumL, e_iEnumT, e_iZipW, e_mAppend, e_mExtend, e_mIndex, e_nLen, e_nTuple, e_nList, e_nBls, e_rIx, e_rIadd_int, e_nSorted, e_nSortedK, e_nSortedS, e_wDNew, e_wDisp2, e_iKy, e_iPr, e_nBest, e_kBestD, e_rAdd_int, e_rAdd_tup, e_rAdd_str, e_rAdd_ref, e_rSub_int, e_rMulA_int, e_rMulA_tup, e_rMulA_ref, e_rFdiv_int, e_rMod_int, e_rPow_int, e_rLe_int, e_rGt_int, e_rGe_int, e_rLt_int, e_rLt_tup, e_rEqn_int, e_rEqn_str, e_rEqn_bl, e_rEqn_tup, e_rEqn_ref, e_rIsn_non, e_rIsn_bl, e_rInn_tup, e_rNeg_int, e_ix_tup, e_ix_fl, len_tup, len_fl, items_tup, items_fl, iseq_tup, iseq_fl, e_nInt_int, e_nInt_bl, e_nInt1_int, e_nInt2_int, e_r2F, e_tru_bl, e_tru_int, e_tru_tup, tn_int, tn_bl, tn_str, tn_non, tn_tup, tn_fl, kb_int_int, kb_int_bool, kb_int_str, kb_int_tuple, kb_int_list, kb_bool_int, kb_bool_bool, kb_bool_str, kb_bool_tuple, kb_bool_list, kb_str_int, kb_str_bool, kb_str_str, kb_str_tuple, kb_str_list, kb_NoneType_int, kb_NoneType_bool, kb_NoneType_str, kb_NoneType_tuple, kb_NoneType_list, kb_tuple_int, kb_tuple_bool, kb_tuple_str, kb_tuple_tuple, kb_tuple_list, kb_list_int, kb_list_bool, kb_list_str, kb_list_tuple, kb_list_list, s_at0, s_at1, s_at2, s_at3, s_at4, s_ex2, startD, List.map_cons, List.map_nil, List.length_cons, List.length_nil, List.replicate_succ, List.replicate_zero, List.cons_append, List.nil_append, List.append_nil, Nat.sub_self, Nat.reduceAdd, Nat.reduceSub, List.getElem?_cons_zero, List.getElem?_cons_succ, List.getElem?_nil, Option.some.injEq, reduceCtorEq, false_and, and_false, exists_false, exists_eq_left', exists_and_left, exists_and_right, exists_eq_right, D.int.injEq, D.bl.injEq, D.str.injEq, D.tup.injEq, D.ref.injEq, D.ty.injEq, List.cons.injEq, and_self, true_and, and_true, exists_eq_left, List.set_cons_zero, List.set_cons_succ, wipeD, forall_const, if_true, false_implies, true_implies, implies_true, Bool.false_eq_true, Bool.true_eq_false, eq_self_iff_true, xor_f, xor_t, Bool.not_true, Bool.not_false, decide_eq_true_eq, decide_eq_false_iff_not])
local macro_rules | `(tactic| walk_at "mp") => `(tactic| (try dsimp only); (try walk_at "mp1"))
local macro_rules | `(tactic| walk_at "cm") => `(tactic| first | exact cmul_r ⟨by decide, by decide⟩ | exact cmul_l ⟨by decide, by decide⟩ | exact cmul_r ⟨by omega, by omega⟩ | exact cmul_l ⟨by omega, by omega⟩)
theorem plan_def (p : Plan) : planD p = .tup [.int p.c, .tup (p.bounds.map barsD), .tup (p.edges.map edgeD), .tup (p.ends.map D.int)] := rfl
theorem edge_def (e : Edge) : edgeD e = .tup [.int e.s, .int e.d, .tup (e.bars.map barD), .tup (e.rs.map D.int), .int e.g] := rfl
theorem bar_def (b : Bar) : barD b = .tup [.int b.1, .str (sg b.2.1), .int b.2.2] := rfl
/-! ### ints that are keys -/
def kT (i : Int) : D × D := (.int i, .bl true)
theorem put_kT (xs : List Int) (b : Int) : dputD (xs.map kT) (.int b) (.bl true) = (if b ∈ xs then xs else xs ++ [b]).map kT := by
  have any : (xs.map kT).any (fun p => decide (p.1.key = (D.int b).key)) = decide (b ∈ xs) := by
    rw [List.any_map, Bool.eq_iff_iff, List.any_eq_true, decide_eq_true_iff]
    constructor
    · rintro ⟨x, hx, e⟩
      have e := of_decide_eq_true e
      simp only [kT, D.key] at e
      have : x = b := by simpa using e
      rwa [← this]
    · exact fun h => ⟨b, h, decide_eq_true rfl⟩
  unfold dputD
  rw [any]
  by_cases h : b ∈ xs
  · rw [decide_eq_true h, if_pos rfl, if_pos h, List.map_map]
    refine List.map_congr_left fun x _ => ?_
    simp only [Function.comp]
    split <;> rfl
  · rw [decide_eq_false h, if_neg (by decide), if_neg h, List.map_append]
    rfl
theorem kT_ok (xs : List Int) (b : Int) : keyOk (xs.map kT) (.int b) := .inl ⟨rfl, fun q hq => by obtain ⟨x, _, rfl⟩ := List.mem_map.mp hq; rfl⟩
theorem hasD_iff {p : Plan} {x : Int} : hasD p x = true ↔ x ∈ p.edges.map (·.d) := by
  unfold hasD
  rw [List.any_eq_true, List.mem_map]
  exact ⟨fun ⟨e, h, g⟩ => ⟨e, h, of_decide_eq_true g⟩, fun ⟨e, h, g⟩ => ⟨e, h, decide_eq_true g⟩⟩
theorem law_deeds_of : FnLaw 2 1 w_deeds_of r_deeds_of := law_of fun p ds M cn ⟨e, hp⟩ => by
  subst e
  refine ⟨rfl, ?_⟩
  intro R mkR
  have sz := sizeLine_eq
  have he := hp.ok.m
  unfold w_deeds_of rtE
  simp only [plan_def]
  walk_at "mp"
  refine dn_inv (fun i acc M' => M' = M ∧ ∃ xs : List Int, acc = xs.map kT ∧ xs.length ≤ i ∧ ∀ j, j ∈ xs ↔ j ∈ (p.edges.take i).map (·.d)) _ ?step ?fin _ ⟨rfl, [], rfl, Nat.le_refl _, fun j => by simp⟩
  case fin =>
    rintro acc M' ⟨rfl, xs, rfl, h1, h3⟩
    rw [List.length_map] at h1 h3
    rw [List.take_length] at h3
    refine ⟨trivial, fun q hq => ⟨q, rfl, _, mupd_same, .inr fun y hy => by obtain ⟨x, _, rfl⟩ := List.mem_map.mp hy; rfl, ?_⟩⟩
    rw [show (xs.map kT).map (fun x => x.1) = xs.map D.int by rw [List.map_map]; rfl]
    refine ⟨fun d hd d' hd' => ?_, .inr fun d hd => ?_, fun x hx => ?_, fun r hr => ?_⟩
    · simp only [List.map_map, List.mem_map] at hd hd'
      obtain ⟨x, _, rfl⟩ := hd
      obtain ⟨y, _, rfl⟩ := hd'
      rfl
    · simp only [List.map_map, List.mem_map] at hd
      obtain ⟨x, _, rfl⟩ := hd
      exact ⟨(fun z => by cases z), fun xs z => by cases z⟩
    · obtain ⟨y, _, rfl⟩ := List.mem_map.mp hx
      exact ⟨rfl, Nat.zero_le _⟩
    · rw [items_lst mupd_same, srt_eq]
      exact mkR _ _ ⟨_, rfl, by rw [(srt_perm D.int xs).length_eq]; omega, fun x => by rw [(srt_perm D.int xs).mem_iff, h3, hasD_iff]⟩ ((Sub.new hq).trans (Sub.new hr))
  case step =>
    rintro J i x hx acc M' ⟨rfl, xs, rfl, h1, h3⟩ mkJ
    rw [List.getElem?_map] at hx
    obtain ⟨b, hb, rfl⟩ := Option.map_eq_some_iff.mp hx
    have hi := (List.getElem?_eq_some_iff.mp hb).1
    refine ⟨trivial, ?_⟩
    unfold edgeD
    walk_at "mp"
    have len : (xs.map kT).length < sizeLine := by rw [List.length_map]; omega
    refine ⟨kT_ok xs b.d, len, mkJ _ _ _ (kT_ok xs b.d) len ⟨rfl, _, put_kT xs b.d, ?_, fun j => ?_⟩⟩
    · split
      · omega
      · rw [List.length_append, List.length_singleton]; omega
    · rw [List.take_succ, hb, List.map_append, List.mem_append, ← h3]
      split
      · next g =>
        simp only [Option.toList_some, List.map_cons, List.map_nil, List.mem_singleton]
        exact ⟨.inl, fun z => z.elim id fun z => z ▸ g⟩
      · simp
theorem deeds_at {p : Plan} {M : Mem} {Q : D → Mem → Prop} (h : drP 2 p) (q : ∀ l : List Int, l.length ≤ 8 → (∀ x, x ∈ l ↔ hasD p x = true) → Q (isD l) M) : r_deeds_of.f [planD p] M Q := ⟨p, ⟨rfl, h⟩, fun d ⟨l, e, h1, h2⟩ => by rw [e]; exact q l h1 h2⟩
theorem law_shifted : FnLaw 5 2 w_shifted r_shifted := law_of fun x ds M cn ⟨e, hl⟩ => by
  obtain ⟨bs, k⟩ := x
  subst e
  refine ⟨rfl, ?_⟩
  intro R mkR
  have sz := sizeLine_eq
  dsimp only at hl
  unfold w_shifted rtE barsD
  walk_at "mp"
  refine lc_enc barD (fun b => barD (shb k b)) (fun M' => M' = M) bs (fun J mkJ b hb M' e => ?_) (by omega) (fun M' e => ?_) _ rfl
  · subst e
    rw [bar_def]
    walk_at "mp"
    exact ⟨rfl, by omega, rfl, mkJ _ rfl⟩
  · subst e
    refine ⟨trivial, fun q hq => ?_⟩
    rw [items_lst mupd_same]
    exact mkR _ _ (by unfold barsD shB; rw [List.map_map]; rfl) (Sub.new hq)
theorem shifted_at {bs : List Bar} {k : Int} {M : Mem} {Q : D → Mem → Prop} (h : bs.length ≤ 8) (q : Q (barsD (shB k bs)) M) : r_shifted.f [barsD bs, .int k] M Q := ⟨(bs, k), ⟨rfl, h⟩, fun d e => by rw [e]; exact q⟩
theorem isI_sh (k : Int) (l : List Int) : isD (shI k l) = .tup (l.map fun i => D.int (i + k)) := by
  unfold shI
  show D.tup ((l.map (· + k)).map D.int) = _
  rw [List.map_map]; rfl
theorem law_shifted_edge : FnLaw 8 2 w_shifted_edge r_shifted_edge := law_of fun x ds M cn ⟨e, h1, h2⟩ => by
  obtain ⟨e0, k⟩ := x
  subst e
  refine ⟨rfl, ?_⟩
  intro R mkR
  have sz := sizeLine_eq
  dsimp only at h1 h2
  unfold w_shifted_edge rtE
  rw [edge_def]
  walk_at "mp"
  refine ⟨rfl, shifted_at (bs := e0.bars) h1 ?_⟩
  refine lc_enc D.int (fun i => .int (i + k)) (fun M' => M' = M) e0.rs (fun J mkJ b hb M' e => ?_) (by omega) (fun M' e => ?_) _ rfl
  · subst e
    walk_at "mp"
    exact mkJ _ rfl
  · subst e
    refine ⟨trivial, fun q hq => ?_⟩
    rw [items_lst mupd_same]
    exact ⟨by omega, mkR _ _ (by show _ = edgeD _; unfold shE; rw [show ∀ e : Edge, edgeD e = .tup [.int e.s, .int e.d, barsD e.bars, isD e.rs, .int e.g] from fun _ => rfl, isI_sh]) (Sub.new hq)⟩
theorem shifted_edge_at {e : Edge} {k : Int} {M : Mem} {Q : D → Mem → Prop} (h : e.bars.length ≤ 8) (h2 : e.rs.length ≤ 8) (q : Q (edgeD (shE k e)) M) : r_shifted_edge.f [edgeD e, .int k] M Q := ⟨(e, k), ⟨rfl, h, h2⟩, fun d e => by rw [e]; exact q⟩
theorem law_with_one_clock_more : FnLaw 1 1 w_with_one_clock_more r_with_one_clock_more := law_of fun p ds M cn ⟨e, hp⟩ => by
  subst e
  refine ⟨rfl, ?_⟩
  intro R mkR
  have sz := sizeLine_eq
  unfold w_with_one_clock_more rtE
  rw [plan_def]
  walk_at "mp"
  exact ⟨by omega, mkR _ _ rfl Sub.refl⟩
theorem law__law_shifted : FnLaw 5 1 w__law_shifted r__law_shifted := law_of fun e0 ds M cn ⟨e, h1, h2⟩ => by
  subst e
  refine ⟨rfl, ?_⟩
  intro R mkR
  have sz := sizeLine_eq
  unfold w__law_shifted rtE
  refine seq_cut (fun ρ M1 => ∃ x2 x3 x4, ρ = [some (edgeD e0), some (barsD (shB 1 e0.bars)), x2, x3, x4] ∧ Sub M M1) (fun I mk => ?_) ?_
  · rw [edge_def]
    walk_at "mp"
    refine lc_enc barD (fun b => barD (shb 1 b)) (fun M' => M' = M) e0.bars (fun J mkJ b hb M' e => ?_) (by omega) (fun M' e => ?_) _ rfl
    · subst e
      rw [bar_def]
      walk_at "mp"
      exact ⟨rfl, by omega, rfl, mkJ _ rfl⟩
    · subst e
      refine ⟨trivial, fun q hq => ?_⟩
      rw [items_lst mupd_same]
      exact mk _ _ ⟨_, _, _, by unfold barsD shB; rw [List.map_map]; rfl, Sub.new hq⟩
  rintro _ M1 ⟨x2, x3, x4, rfl, s1⟩
  rw [edge_def]
  walk_at "mp"
  show slF (.tup [.int e0.s, .int e0.d, .tup (e0.bars.map barD), .tup (e0.rs.map D.int), .int e0.g]) _ _ M1 _
  walk_at "mp"
  refine lc_enc D.int (fun i => .int (i + 1)) (fun M' => M' = M1) e0.rs (fun J mkJ b hb M' e => ?_) (by omega) (fun M' e => ?_) _ rfl
  · subst e
    walk_at "mp"
    exact mkJ _ rfl
  · subst e
    refine ⟨trivial, fun q hq => ?_⟩
    rw [items_lst mupd_same]
    walk_at "mp"
    exact ⟨by omega, by show 2 + 3 ≤ sizeLine; omega, mkR _ _ (by show _ = edgeD _; unfold shE; rw [show ∀ e : Edge, edgeD e = .tup [.int e.s, .int e.d, barsD e.bars, isD e.rs, .int e.g] from fun _ => rfl, isI_sh]; rfl) (s1.trans (Sub.new hq))⟩
theorem lshifted_at {e : Edge} {M : Mem} {Q : D → Mem → Prop} (h : e.bars.length ≤ 8) (h2 : e.rs.length ≤ 8) (q : Q (edgeD (shE 1 e)) M) : r__law_shifted.f [edgeD e] M Q := ⟨e, ⟨rfl, h, h2⟩, fun d e => by rw [e]; exact q⟩
end K31

namespace K31
open PySem PySem.Spec PyProof.Rows L2 MP
open PL (Bar Edge Plan barD barsD edgeD planD boundsD edgesD okP drP okB okBs okE okNs sg sgs isD deps_le edge_nb edge_dep bars_pl is_nb bars_dep is_dep edge_alike alike_bars alike_is)

local macro_rules | `(tactic| walk_at "mp1") => `(tactic| simp only [e_iPd, e_sRaise, e_sTryN, e_wFld, e_gFld, e_wMe, e_wNew, e_wVar, e_wC, e_wOp, e_wUn, e_aNil, e_aCons, e_wCB, e_wCK, e_wTup, e_wLst, e_wtB, e_wtV, e_wtNot, e_wtAnd, e_wtOr, e_wAnd, e_wOr, e_wNot, e_wIf, e_wChain, e_wSl, e_oNone, e_oSome, e_wBM, e_wLc, e_wLc2, e_wDc, e_wDn, e_wDn2, e_nRng1, e_iRg, e_wRev, e_revF_tup, e_wtYes, e_sNil, e_sSeq, e_sBreak, e_sCont, e_sDrop, e_sRet, e_sRetN, e_sIf, e_sAsg, e_sPar, e_sAug, e_sFor, e_gN, e_gsNil, e_gsCons, e_gT, e_gSubD, e_iSeq, e_iR1, e_iR2, e_iEnumL, e_iEnumT, e_iZipW, e_mAppend, e_mExtend, e_mIndex, e_nLen, e_nTuple, e_nList, e_nBls, e_rIx, e_rIadd_int, e_nSorted, e_nSortedK, e_nSortedS, e_wDNew, e_wDisp2, e_iKy, e_iPr, e_nBest, e_kBestD, e_rAdd_int, e_rAdd_tup, e_rAdd_str, e_rAdd_ref, e_rSub_int, e_rMulA_int, e_rMulA_tup, e_rMulA_ref, e_rFdiv_int, e_rMod_int, e_rPow_int, e_rLe_int, e_rGt_int, e_rGe_int, e_rLt_int, e_rLt_tup, e_rEqn_int, e_rEqn_str, e_rEqn_bl, e_rEqn_tup, e_rEqn_ref, e_rIsn_non, e_rIsn_bl, e_rInn_tup, e_rNeg_int, e_ix_tup, e_ix_fl, len_tup, len_fl, items_tup, items_fl, iseq_tup, iseq_fl, e_nInt_int, e_nInt_bl, e_nInt1_int, e_nInt2_int, e_r2F, e_tru_bl, e_tru_int, e_tru_tup, tn_int, tn_bl, tn_str, tn_non, tn_tup, tn_fl, kb_int_int, kb_int_bool, kb_int_str, kb_int_tuple, kb_int_list, kb_bool_int, kb_bool_bool, kb_bool_str, kb_bool_tuple, kb_bool_list, kb_str_int, kb_str_bool, kb_str_str, kb_str_tuple, kb_str_list, kb_NoneType_int, kb_NoneType_bool, kb_NoneType_str, kb_NoneType_tuple, kb_NoneType_list, kb_tuple_int, kb_tuple_bool, kb_tuple_str, kb_tuple_tuple, kb_tuple_list, kb_list_int, kb_list_bool, kb_list_str, kb_list_tuple, kb_list_list, s_at0, s_at1, s_at2, s_at3, s_at4, s_ex2, startD, List.map_cons, List.map_nil, List.length_cons, List.length_nil, List.replicate_succ, List.replicate_zero, List.cons_append, List.nil_append, List.append_nil, Nat.sub_self, Nat.reduceAdd, Nat.reduceSub, List.getElem?_cons_zero, List.getElem?_cons_succ, List.getElem?_nil, Option.some.injEq, reduceCtorEq, false_and, and_false, exists_false, exists_eq_left', exists_and_left, exists_and_right, exists_eq_right, D.int.injEq, D.bl.injEq, D.str.injEq, D.tup.injEq, D.ref.injEq, D.ty.injEq, List.cons.injEq, and_self, true_and, and_true, exists_eq_left, List.set_cons_zero, List.set_cons_succ, wipeD, forall_const, if_true, false_implies, true_implies, implies_true, Bool.false_eq_true, Bool.true_eq_false, eq_self_iff_true, xor_f, xor_t, Bool.not_true, Bool.not_false, decide_eq_true_eq, decide_eq_false_iff_not])
local macro_rules | `(tactic| walk_at "mp") => `(tactic| (try dsimp only); (try walk_at "mp1"))
local macro_rules | `(tactic| walk_at "cm") => `(tactic| first | exact cmul_r ⟨by decide, by decide⟩ | exact cmul_l ⟨by decide, by decide⟩ | exact cmul_r ⟨by omega, by omega⟩ | exact cmul_l ⟨by omega, by omega⟩)
/-! ### steps as data -/
theorem stp_alike (e f : Stp) : PySem.W.alike (stD e).py (stD f).py = true := by
  show PySem.W.alike (.tuple [.int e.d, .tuple (D.pys (e.bars.map barD)), .tuple (D.pys (e.rs.map D.int)), .tuple [.int e.p.1, .int e.p.2]]) (.tuple [.int f.d, .tuple (D.pys (f.bars.map barD)), .tuple (D.pys (f.rs.map D.int)), .tuple [.int f.p.1, .int f.p.2]]) = true
  have h1 : PySem.W.alike (.tuple (D.pys (e.bars.map barD))) (.tuple (D.pys (f.bars.map barD))) = true := by rw [PySem.W.alike]; exact alike_bars _ _
  have h2 : PySem.W.alike (.tuple (D.pys (e.rs.map D.int))) (.tuple (D.pys (f.rs.map D.int))) = true := by rw [PySem.W.alike]; exact alike_is _ _
  have h3 : PySem.W.alike (.tuple [.int e.p.1, .int e.p.2]) (.tuple [.int f.p.1, .int f.p.2]) = true := rfl
  rw [PySem.W.alike]
  simp only [PySem.W.alikeAll, h1, h2, h3]
  rfl
theorem stp_nb (e : Stp) : (stD e).nb = true := by
  have h1 := bars_pl e.bars
  have h2 := is_nb e.rs
  show ((D.int e.d).nb && ((barsD e.bars).nb && ((isD e.rs).nb && ((ipD e.p).nb && true)))) = true
  rw [h1, h2]; rfl
theorem stp_dep (e : Stp) : (stD e).dep ≤ 3 := by
  unfold stD
  rw [dep_tup]
  have : D.deps [D.int e.d, barsD e.bars, isD e.rs, ipD e.p] ≤ 2 := deps_le fun x hx => by
    simp only [List.mem_cons, List.not_mem_nil, or_false] at hx
    rcases hx with rfl | rfl | rfl | rfl
    · exact Nat.zero_le _
    · exact bars_dep _
    · exact Nat.le_trans (is_dep _) (by decide)
    · exact Nat.le_succ 1
  omega
/-- data that sorted takes -/
theorem sorted_of {α : Type} {enc : α → D} (al : ∀ x y, PySem.W.alike (enc x).py (enc y).py = true) (nb : ∀ x, (enc x).nb = true) (dp : ∀ x, (enc x).dep ≤ 60) (tu : ∀ x, ∃ y ys, (enc x).py = .tuple (y :: ys)) {a : Addr} {l : List α} {M : Mem} {Q : D → Mem → Prop} (h : M a = some (.lst (l.map enc)))
    (q : ∀ p, M p = none → Q (.ref p) (mupd M p (.lst ((srt enc l).map enc)))) : nSorted.f [.ref a] M Q := by
  refine ⟨a, _, rfl, h, fun d hd d' hd' => ?_, .inl fun d hd => ?_, fun x hx => ?_, fun p hp => ?_⟩
  · simp only [List.map_map, List.mem_map] at hd hd'
    obtain ⟨x, _, rfl⟩ := hd
    obtain ⟨y, _, rfl⟩ := hd'
    exact al x y
  · simp only [List.map_map, List.mem_map] at hd
    obtain ⟨x, _, rfl⟩ := hd
    exact tu x
  · obtain ⟨y, _, rfl⟩ := List.mem_map.mp hx
    exact ⟨MP.nb_pl _ (nb y), dp y⟩
  · rw [srt_eq]; exact q p hp
theorem sorted_stp {a : Addr} {l : List Stp} {M : Mem} {Q : D → Mem → Prop} (h : M a = some (.lst (l.map stD))) (q : ∀ p, M p = none → Q (.ref p) (mupd M p (.lst ((srt stD l).map stD)))) : nSorted.f [.ref a] M Q :=
  sorted_of stp_alike stp_nb (fun x => Nat.le_trans (stp_dep x) (by decide)) (fun _ => ⟨_, _, rfl⟩) h q
theorem sorted_bars {xs : List Bar} {M : Mem} {Q : D → Mem → Prop} (q : ∀ p, M p = none → Q (.ref p) (mupd M p (.lst ((srt barD xs).map barD)))) : nSortedT.f [.tup (xs.map barD)] M Q := by
  refine ⟨_, rfl, fun d hd d' hd' => ?_, .inl fun d hd => ?_, fun x hx => ?_, fun p hp => ?_⟩
  · simp only [List.map_map, List.mem_map] at hd hd'
    obtain ⟨x, _, rfl⟩ := hd
    obtain ⟨y, _, rfl⟩ := hd'
    rfl
  · simp only [List.map_map, List.mem_map] at hd
    obtain ⟨x, _, rfl⟩ := hd
    exact ⟨_, _, rfl⟩
  · obtain ⟨y, _, rfl⟩ := List.mem_map.mp hx
    exact ⟨rfl, by show 1 ≤ 60; decide⟩
  · rw [srt_eq]; exact q p hp
/-- as walk_at leaves it -/
theorem sorted_stp' {a : Addr} {l : List Stp} {M : Mem} {Q : D → Mem → Prop} (h : M a = some (.lst (l.map stD))) (q : ∀ p, M p = none → Q (.ref p) (mupd M p (.lst ((srt stD l).map stD)))) :
    ∃ xs, M a = some (.lst xs) ∧ PySem.W.AllAlike (xs.map D.py) ∧ PySem.W.Sortable (xs.map D.py) ∧ (∀ x ∈ xs, x.pl ∧ x.dep ≤ 60) ∧ ∀ p, M p = none → Q (.ref p) (mupd M p (.lst (sortD xs))) := by
  obtain ⟨a', xs, e, r⟩ := sorted_stp h q
  cases e
  exact ⟨xs, r⟩
structure Jn (M : Mem) (q a b : Addr) (X Y : List D) (L : List Stp) (M' : Mem) : Prop where
  kq : M' q = some (.lst (L.map stD))
  ka : M' a = some (.lst X)
  kb : M' b = some (.lst Y)
  s : Sub M M'
  n : M q = none
  qa : q ≠ a
  qb : q ≠ b
theorem Jn.new {M M' : Mem} {q a b p : Addr} {X Y : List D} {L : List Stp} (h : Jn M q a b X Y L M') (hp : M' p = none) {o : MO} : Jn M q a b X Y L (mupd M' p o) :=
  ⟨Sub.new hp _ _ h.kq, Sub.new hp _ _ h.ka, Sub.new hp _ _ h.kb, h.s.trans (Sub.new hp), h.n, h.qa, h.qb⟩
theorem Jn.app {M M' : Mem} {q a b : Addr} {X Y : List D} {L : List Stp} (h : Jn M q a b X Y L M') (L2 : List Stp) {o : MO} (e : o = .lst ((L ++ L2).map stD)) : Jn M q a b X Y (L ++ L2) (mupd M' q o) :=
  ⟨by rw [mupd_same, e], by rw [mupd_ne h.qa.symm]; exact h.ka, by rw [mupd_ne h.qb.symm]; exact h.kb, h.s.upd h.n, h.n, h.qa, h.qb⟩
theorem one_dep (two : Plan) (p : PR) (e : Edge) (he : two.edges.length ≤ 8) : (oneF two p e).length ≤ 8 := by
  unfold oneF
  split
  · split
    · unfold bothF
      rw [List.length_map]
      exact Nat.le_trans (List.length_filter_le _ _) he
    · exact Nat.le_of_ble_eq_true rfl
  · exact Nat.zero_le _
theorem flat_le {α β : Type} {f : α → List β} {n : Nat} (h : ∀ x, (f x).length ≤ n) : ∀ l : List α, ((l.map f).flatten).length ≤ n * l.length
  | [] => Nat.zero_le _
  | x :: l => by
    have h1 := h x
    have h2 := flat_le h l
    rw [List.map_cons, List.flatten_cons, List.length_append, List.length_cons, Nat.mul_succ]
    omega
def firstF (two : Plan) (p : PR) (e : Edge) : List Stp := if e.s = p.1 ∧ hasD two e.d = false then [⟨e.d, e.bars, e.rs, (e.g, p.2)⟩] else []
noncomputable def bodyF (p : PR) (e : Edge) (l : List Edge) : List Stp := if e.s = p.1 then (l.filter fun f => decide (f.s = p.2) && decide (f.d = e.d)).map fun f => ⟨e.d, srt barD (e.bars ++ shB 1 f.bars), e.rs ++ shI 1 f.rs, (e.g, f.g)⟩ else []
theorem one_eq (two : Plan) (p : PR) (e : Edge) : firstF two p e ++ bodyF p e two.edges = oneF two p e := by
  unfold firstF bodyF oneF bothF
  by_cases h : e.s = p.1
  · rw [if_pos h, if_pos h]
    cases hd : hasD two e.d with
    | true => rw [if_neg (fun z => by cases z.2), if_pos rfl, List.nil_append]
    | false =>
      rw [if_pos ⟨h, rfl⟩, if_neg (by decide)]
      rw [List.filter_eq_nil_iff.mpr (fun f hf z => ?_), List.map_nil, List.append_nil]
      rw [Bool.and_eq_true, decide_eq_true_eq, decide_eq_true_eq] at z
      have : hasD two e.d = true := hasD_iff.mpr (List.mem_map.mpr ⟨f, hf, z.2⟩)
      rw [hd] at this; cases this
  · rw [if_neg h, if_neg h, if_neg (fun z => h z.1), List.nil_append]
theorem body_add (p : PR) (e f : Edge) (l : List Edge) : bodyF p e (l ++ [f]) = bodyF p e l ++ (if e.s = p.1 ∧ f.s = p.2 ∧ f.d = e.d then [⟨e.d, srt barD (e.bars ++ shB 1 f.bars), e.rs ++ shI 1 f.rs, (e.g, f.g)⟩] else []) := by
  unfold bodyF
  by_cases h : e.s = p.1
  · rw [if_pos h, if_pos h, List.filter_append, List.map_append]
    by_cases h2 : f.s = p.2 ∧ f.d = e.d
    · rw [if_pos ⟨h, h2⟩, List.filter_cons_of_pos (by simp [h2])]; rfl
    · rw [if_neg (fun z => h2 z.2), List.filter_cons_of_neg (by simpa using h2)]; rfl
  · rw [if_neg h, if_neg h, if_neg (fun z => h z.1)]; rfl
theorem body_le (p : PR) (e : Edge) (l : List Edge) : (bodyF p e l).length ≤ l.length := by
  unfold bodyF
  split
  · rw [List.length_map]; exact List.length_filter_le _ _
  · exact Nat.zero_le _
theorem first_le (two : Plan) (p : PR) (e : Edge) : (firstF two p e).length ≤ 1 := by
  unfold firstF
  split
  · exact Nat.le_refl _
  · exact Nat.zero_le _
theorem any_d (p : Plan) (x : Int) : (((p.edges.map (·.d)).map D.int).any fun y => eqD y (.int x)) = hasD p x := by
  rw [any_enc D.int (fun _ => rfl) (fun a b h => by cases h; rfl), Bool.eq_iff_iff, decide_eq_true_iff, hasD_iff]
noncomputable def restF (one : Plan) (p : PR) (l : List Edge) : List Stp := (l.filter fun f => decide (f.s = p.2) && !hasD one f.d).map fun f => ⟨f.d, shB 1 f.bars, shI 1 f.rs, (p.1, f.g)⟩
theorem rest_le (one : Plan) (p : PR) (l : List Edge) : (restF one p l).length ≤ l.length := by
  unfold restF
  rw [List.length_map]; exact List.length_filter_le _ _
theorem rest_add (one : Plan) (p : PR) (f : Edge) (l : List Edge) : restF one p (l ++ [f]) = restF one p l ++ (if f.s = p.2 ∧ hasD one f.d = false then [⟨f.d, shB 1 f.bars, shI 1 f.rs, (p.1, f.g)⟩] else []) := by
  unfold restF
  rw [List.filter_append, List.map_append]
  by_cases h2 : f.s = p.2 ∧ hasD one f.d = false
  · rw [if_pos h2, List.filter_cons_of_pos (by simp [h2])]; rfl
  · rw [if_neg h2, List.filter_cons_of_neg (by simpa using h2)]; rfl
theorem law__law_joint : FnLaw 9 3 w__law_joint r__law_joint := law_newof (fun x M r c n z => by cases z) fun ⟨⟨one, two⟩, pr⟩ ds M cn ⟨e, ok⟩ => by
  obtain ⟨p1, p2⟩ := pr
  subst e
  refine ⟨rfl, ?_⟩
  intro R mkR
  have sz := sizeLine_eq
  have e1 : one.edges.length ≤ 8 := ok.h1.ok.m
  have e2 : two.edges.length ≤ 8 := ok.h2.ok.m
  unfold w__law_joint rtE
  dsimp only
  refine seq_cut (fun ρ M1 => ∃ q, ρ = [some (planD one), some (planD two), some (ipD (p1, p2)), some (.ref q), none, none, none, none, none] ∧ M q = none ∧ M1 q = some (.lst []) ∧ Sub M M1) (fun I mk => ?_) ?_
  · walk_at "mp"
    exact ⟨by omega, fun q hq => mk _ _ ⟨q, rfl, hq, mupd_same, Sub.new hq⟩⟩
  rintro _ M1 ⟨q, rfl, hq, hq1, s1⟩
  refine seq_cut (fun ρ M2 => ∃ a, ρ = [some (planD one), some (planD two), some (ipD (p1, p2)), some (.ref q), some (.ref a), none, none, none, none] ∧ M2 q = some (.lst []) ∧ M2 a = some (.lst ((one.edges.map (·.d)).map D.int)) ∧ q ≠ a ∧ Sub M M2) (fun I mk => ?_) ?_
  · rw [plan_def one]
    walk_at "mp"
    refine lc_enc edgeD (fun e => .int e.d) (fun M' => M' = M1) one.edges (fun J mkJ b hb M' e => ?_) (by omega) (fun M' e => ?_) _ rfl
    · subst e
      rw [edge_def]
      walk_at "mp"
      exact mkJ _ rfl
    · subst e
      refine ⟨trivial, fun a ha => mk _ _ ⟨a, rfl, Sub.new ha _ _ hq1, by rw [mupd_same, List.map_map]; rfl, Sub.ne hq1 ha, s1.trans (Sub.new ha)⟩⟩
  rintro _ M2 ⟨a, rfl, hq2, ha2, qa, s2⟩
  refine seq_cut (fun ρ M3 => ∃ b, ρ = [some (planD one), some (planD two), some (ipD (p1, p2)), some (.ref q), some (.ref a), some (.ref b), none, none, none] ∧ Jn M q a b ((one.edges.map (·.d)).map D.int) ((two.edges.map (·.d)).map D.int) [] M3) (fun I mk => ?_) ?_
  · rw [plan_def two]
    walk_at "mp"
    refine lc_enc edgeD (fun e => .int e.d) (fun M' => M' = M2) two.edges (fun J mkJ b hb M' e => ?_) (by omega) (fun M' e => ?_) _ rfl
    · subst e
      rw [edge_def]
      walk_at "mp"
      exact mkJ _ rfl
    · subst e
      refine ⟨trivial, fun b hb => mk _ _ ⟨b, rfl, Sub.new hb _ _ hq2, Sub.new hb _ _ ha2, by rw [mupd_same, List.map_map]; rfl, s2.trans (Sub.new hb), hq, qa, Sub.ne hq2 hb⟩⟩
  rintro _ M3 ⟨b, rfl, j3⟩
  refine seq_cut (fun ρ M4 => ∃ x6 x7 x8, ρ = [some (planD one), some (planD two), some (ipD (p1, p2)), some (.ref q), some (.ref a), some (.ref b), x6, x7, x8] ∧ Jn M q a b ((one.edges.map (·.d)).map D.int) ((two.edges.map (·.d)).map D.int) ((one.edges.map (oneF two (p1, p2))).flatten) M4) (fun I mk => ?_) ?_
  · rw [plan_def one, plan_def two]
    walk_at "mp"
    refine loop_enc edgeD one.edges (fun pre ρ M4 => ∃ x6 x7 x8, ρ = [some (planD one), some (planD two), some (ipD (p1, p2)), some (.ref q), some (.ref a), some (.ref b), x6, x7, x8] ∧ Jn M q a b ((one.edges.map (·.d)).map D.int) ((two.edges.map (·.d)).map D.int) ((pre.map (oneF two (p1, p2))).flatten) M4) (fun J mkJ pre e post ρ M4 eb h => ?_) (fun ρ M4 h => ?_) _ _ ⟨_, _, _, rfl, j3⟩
    · obtain ⟨x6, x7, x8, rfl, j4⟩ := h
      refine ⟨trivial, ?_⟩
      simp only [e_gN, List.set_cons_succ, List.set_cons_zero]
      have hen : e ∈ one.edges := by rw [eb]; simp
      have few := ok.h1.few.2 e hen
      have hpl : pre.length ≤ 8 := by have := congrArg List.length eb; rw [List.length_append, List.length_cons] at this; omega
      have hfl : ((pre.map (oneF two (p1, p2))).flatten).length ≤ 64 := Nat.le_trans (flat_le (fun x => one_dep two (p1, p2) x e2) pre) (by omega)
      refine seq_cut (fun ρ M5 => ∃ x7 x8, ρ = [some (planD one), some (planD two), some (ipD (p1, p2)), some (.ref q), some (.ref a), some (.ref b), some (edgeD e), x7, x8] ∧ Jn M q a b ((one.edges.map (·.d)).map D.int) ((two.edges.map (·.d)).map D.int) ((pre.map (oneF two (p1, p2))).flatten ++ firstF two (p1, p2) e) M5) (fun I' mk' => ?_) ?_
      · rw [edge_def, ipD]
        walk_at "mp"
        refine ⟨fun h1 => ?_, fun h1 => mk' _ _ ⟨_, _, rfl, by unfold firstF; rw [if_neg (fun z => h1 z.1), List.append_nil]; exact j4⟩⟩
        show (rInn true).f (.int e.d) (.ref b) M4 _
        rw [in_lst j4.kb, any_d, Bool.true_xor]
        refine ⟨nbs_pls _ (nbs_map D.int (fun _ => rfl) _), rfl, Nat.le_trans (Nat.min_le_right _ _) (Nat.zero_le _), _, rfl, fun h2 => ⟨by rw [ty_lst j4.kq]; trivial, by omega, by omega, _, j4.kq, by rw [List.length_map]; omega, mk' _ _ ⟨_, _, rfl, ?_⟩⟩, fun h2 => mk' _ _ ⟨_, _, rfl, ?_⟩⟩
        · have hd : hasD two e.d = false := by simpa using h2
          unfold firstF
          rw [if_pos ⟨h1, hd⟩]
          exact j4.app _ (by rw [List.map_append]; rfl)
        · have hd : hasD two e.d = true := by simpa using h2
          unfold firstF
          rw [if_neg (fun z => by rw [hd] at z; cases z.2), List.append_nil]
          exact j4
      rintro _ M5 ⟨x7, x8, rfl, j5⟩
      have ffl := first_le two (p1, p2) e
      rw [show J (pre ++ [e]) = J (pre ++ [e]) from rfl]
      rw [plan_def two]
      walk_at "mp"
      refine loop_enc edgeD two.edges (fun pre2 ρ M6 => ∃ x7 x8, ρ = [some (planD one), some (planD two), some (ipD (p1, p2)), some (.ref q), some (.ref a), some (.ref b), some (edgeD e), x7, x8] ∧ Jn M q a b ((one.edges.map (·.d)).map D.int) ((two.edges.map (·.d)).map D.int) (((pre.map (oneF two (p1, p2))).flatten ++ firstF two (p1, p2) e) ++ bodyF (p1, p2) e pre2) M6) (fun I2 mk2 pre2 f post2 ρ M6 eb2 h => ?_) (fun ρ M6 h => ?_) _ _ ⟨_, _, rfl, by rw [show bodyF (p1, p2) e [] = [] from by unfold bodyF; split <;> rfl, List.append_nil]; exact j5⟩
      · obtain ⟨x7, x8, rfl, j6⟩ := h
        refine ⟨trivial, ?_⟩
        have hfn : f ∈ two.edges := by rw [eb2]; simp
        have few2 := ok.h2.few.2 f hfn
        have hpl2 : pre2.length ≤ 8 := by have := congrArg List.length eb2; rw [List.length_append, List.length_cons] at this; omega
        have hb2 := body_le (p1, p2) e pre2
        have hb3 := body_add (p1, p2) e f pre2
        have nothing : ¬ (e.s = p1 ∧ f.s = p2 ∧ f.d = e.d) → ∀ x8, I2 (pre2 ++ [f]) [some (planD one), some (planD two), some (ipD (p1, p2)), some (.ref q), some (.ref a), some (.ref b), some (edgeD e), some (edgeD f), x8] M6 := fun no x8 => mk2 _ _ _ ⟨_, _, rfl, by rw [hb3, if_neg no, List.append_nil]; exact j6⟩
        simp only [e_gN, List.set_cons_succ, List.set_cons_zero]
        rw [edge_def, edge_def, ipD] at *
        walk_at "mp"
        refine ⟨fun h1 => ⟨fun h2 => ⟨fun h3 => ?_, fun h3 => nothing (fun z => h3 z.2.2.symm) _⟩, fun h2 => nothing (fun z => h2 z.2.1) _⟩, fun h1 => nothing (fun z => h1 z.1) _⟩
        refine lshifted_at (e := f) (by omega) (by omega) ?_
        rw [edge_def, shE]
        dsimp only
        walk_at "mp"
        have lb : (List.map barD (shB 1 f.bars)).length = f.bars.length := by rw [List.length_map, shB, List.length_map]
        have lr : (List.map D.int (shI 1 f.rs)).length = f.rs.length := by rw [List.length_map, shI, List.length_map]
        rw [lb, lr, List.length_map, List.length_map, ← List.map_append, ← List.map_append, ty_lst j6.kq]
        refine ⟨trivial, by omega, sorted_bars fun p hp => ?_⟩
        have j7 := j6.new hp (o := .lst ((srt barD (e.bars ++ shB 1 f.bars)).map barD))
        rw [items_lst mupd_same]
        refine ⟨by omega, by omega, by omega, _, j7.kq, ?_, mk2 _ _ _ ⟨_, _, rfl, ?_⟩⟩
        · rw [List.length_map, List.length_append, List.length_append]; omega
        · rw [hb3, if_pos ⟨h1, h2, h3.symm⟩, ← List.append_assoc]
          exact j7.app _ (by rw [List.map_append (l₂ := [_])]; rfl)
      · obtain ⟨x7, x8, rfl, j6⟩ := h
        refine ⟨trivial, mkJ _ _ _ ⟨_, _, _, rfl, ?_⟩⟩
        rw [List.append_assoc, one_eq] at j6
        rw [List.map_append, List.flatten_append]
        simpa using j6
    · obtain ⟨x6, x7, x8, rfl, j4⟩ := h
      exact ⟨trivial, mk _ _ ⟨_, _, _, rfl, j4⟩⟩
  rintro _ M4 ⟨x6, x7, x8, rfl, j4⟩
  refine seq_cut (fun ρ M5 => ∃ x6 x7 x8, ρ = [some (planD one), some (planD two), some (ipD (p1, p2)), some (.ref q), some (.ref a), some (.ref b), x6, x7, x8] ∧ Jn M q a b ((one.edges.map (·.d)).map D.int) ((two.edges.map (·.d)).map D.int) (JL one two (p1, p2)) M5) (fun I mk => ?_) ?_
  · have hfl : ((one.edges.map (oneF two (p1, p2))).flatten).length ≤ 64 := Nat.le_trans (flat_le (fun x => one_dep two (p1, p2) x e2) one.edges) (by omega)
    rw [plan_def two]
    walk_at "mp"
    refine loop_enc edgeD two.edges (fun pre ρ M6 => ∃ x6 x7 x8, ρ = [some (planD one), some (planD two), some (ipD (p1, p2)), some (.ref q), some (.ref a), some (.ref b), x6, x7, x8] ∧ Jn M q a b ((one.edges.map (·.d)).map D.int) ((two.edges.map (·.d)).map D.int) ((one.edges.map (oneF two (p1, p2))).flatten ++ restF one (p1, p2) pre) M6) (fun J mkJ pre f post ρ M6 eb h => ?_) (fun ρ M6 h => ?_) _ _ ⟨_, _, _, rfl, by rw [show restF one (p1, p2) [] = [] from rfl, List.append_nil]; exact j4⟩
    · obtain ⟨x6, x7, x8, rfl, j6⟩ := h
      refine ⟨trivial, ?_⟩
      have hfn : f ∈ two.edges := by rw [eb]; simp
      have few2 := ok.h2.few.2 f hfn
      have hpl2 : pre.length ≤ 8 := by have := congrArg List.length eb; rw [List.length_append, List.length_cons] at this; omega
      have hb2 := rest_le one (p1, p2) pre
      have hb3 := rest_add one (p1, p2) f pre
      have nothing : ¬ (f.s = p2 ∧ hasD one f.d = false) → J (pre ++ [f]) [some (planD one), some (planD two), some (ipD (p1, p2)), some (.ref q), some (.ref a), some (.ref b), x6, some (edgeD f), x8] M6 := fun no => mkJ _ _ _ ⟨_, _, _, rfl, by rw [hb3, if_neg no, List.append_nil]; exact j6⟩
      simp only [e_gN, List.set_cons_succ, List.set_cons_zero]
      rw [edge_def, ipD] at *
      walk_at "mp"
      refine ⟨fun h1 => ?_, fun h1 => nothing fun z => h1 z.1⟩
      show (rInn true).f (.int f.d) (.ref a) M6 _
      rw [in_lst j6.ka, any_d, Bool.true_xor]
      refine ⟨nbs_pls _ (nbs_map D.int (fun _ => rfl) _), rfl, Nat.le_trans (Nat.min_le_right _ _) (Nat.zero_le _), _, rfl, fun h2 => ?_, fun h2 => nothing fun z => by rw [z.2] at h2; cases h2⟩
      have hd : hasD one f.d = false := by simpa using h2
      refine lshifted_at (e := f) (by omega) (by omega) ?_
      rw [edge_def, shE]
      dsimp only
      walk_at "mp"
      rw [ty_lst j6.kq]
      refine ⟨trivial, by omega, by omega, _, j6.kq, ?_, mkJ _ _ _ ⟨_, _, _, rfl, ?_⟩⟩
      · rw [List.length_map, List.length_append]; omega
      · rw [hb3, if_pos ⟨h1, hd⟩, ← List.append_assoc]
        exact j6.app _ (by rw [List.map_append (l₂ := [_])]; rfl)
    · obtain ⟨x6, x7, x8, rfl, j6⟩ := h
      exact ⟨trivial, mk _ _ ⟨_, _, _, rfl, j6⟩⟩
  rintro _ M5 ⟨x6, x7, x8, rfl, j5⟩
  walk_at "mp"
  exact sorted_stp' j5.kq fun p hp => mkR p _ _ rfl (j5.s.none hp) mupd_same (j5.s.trans (Sub.new hp))
end K31

namespace K31
open PySem PySem.Spec PyProof.Rows L2 MP
open PL (Bar Edge Plan barD barsD edgeD planD boundsD edgesD okP drP okB okBs okE okNs sg sgs isD deps_le edge_nb edge_dep bars_pl is_nb bars_dep is_dep edge_alike alike_bars alike_is)

local macro_rules | `(tactic| walk_at "mp1") => `(tactic| simp only [e_iPd, e_sRaise, e_sTryN, e_wFld, e_gFld, e_wMe, e_wNew, e_wVar, e_wC, e_wOp, e_wUn, e_aNil, e_aCons, e_wCB, e_wCK, e_wTup, e_wLst, e_wtB, e_wtV, e_wtNot, e_wtAnd, e_wtOr, e_wAnd, e_wOr, e_wNot, e_wIf, e_wChain, e_wSl, e_oNone, e_oSome, e_wBM, e_wLc, e_wLc2, e_wDc, e_wDn, e_wDn2, e_nRng1, e_iRg, e_wRev, e_revF_tup, e_wtYes, e_sNil, e_sSeq, e_sBreak, e_sCont, e_sDrop, e_sRet, e_sRetN, e_sIf, e_sAsg, e_sPar, e_sAug, e_sFor, e_gN, e_gsNil, e_gsCons, e_gT, e_gSubD, e_iSeq, e_iR1, e_iR2, e_iEnumL, e_iEnumT, e_iZipW, e_mAppend, e_mExtend, e_mIndex, e_nLen, e_nTuple, e_nList, e_nBls, e_rIx, e_rIadd_int, e_nSorted, e_nSortedK, e_nSortedS, e_wDNew, e_wDisp2, e_iKy, e_iPr, e_nBest, e_kBestD, e_rAdd_int, e_rAdd_tup, e_rAdd_str, e_rAdd_ref, e_rSub_int, e_rMulA_int, e_rMulA_tup, e_rMulA_ref, e_rFdiv_int, e_rMod_int, e_rPow_int, e_rLe_int, e_rGt_int, e_rGe_int, e_rLt_int, e_rLt_tup, e_rEqn_int, e_rEqn_str, e_rEqn_bl, e_rEqn_tup, e_rEqn_ref, e_rIsn_non, e_rIsn_bl, e_rInn_tup, e_rNeg_int, e_ix_tup, e_ix_fl, len_tup, len_fl, items_tup, items_fl, iseq_tup, iseq_fl, e_nInt_int, e_nInt_bl, e_nInt1_int, e_nInt2_int, e_r2F, e_tru_bl, e_tru_int, e_tru_tup, tn_int, tn_bl, tn_str, tn_non, tn_tup, tn_fl, kb_int_int, kb_int_bool, kb_int_str, kb_int_tuple, kb_int_list, kb_bool_int, kb_bool_bool, kb_bool_str, kb_bool_tuple, kb_bool_list, kb_str_int, kb_str_bool, kb_str_str, kb_str_tuple, kb_str_list, kb_NoneType_int, kb_NoneType_bool, kb_NoneType_str, kb_NoneType_tuple, kb_NoneType_list, kb_tuple_int, kb_tuple_bool, kb_tuple_str, kb_tuple_tuple, kb_tuple_list, kb_list_int, kb_list_bool, kb_list_str, kb_list_tuple, kb_list_list, s_at0, s_at1, s_at2, s_at3, s_at4, s_ex2, startD, List.map_cons, List.map_nil, List.length_cons, List.length_nil, List.replicate_succ, List.replicate_zero, List.cons_append, List.nil_append, List.append_nil, Nat.sub_self, Nat.reduceAdd, Nat.reduceSub, List.getElem?_cons_zero, List.getElem?_cons_succ, List.getElem?_nil, Option.some.injEq, reduceCtorEq, false_and, and_false, exists_false, exists_eq_left', exists_and_left, exists_and_right, exists_eq_right, D.int.injEq, D.bl.injEq, D.str.injEq, D.tup.injEq, D.ref.injEq, D.ty.injEq, List.cons.injEq, and_self, true_and, and_true, exists_eq_left, List.set_cons_zero, List.set_cons_succ, wipeD, forall_const, if_true, false_implies, true_implies, implies_true, Bool.false_eq_true, Bool.true_eq_false, eq_self_iff_true, xor_f, xor_t, Bool.not_true, Bool.not_false, decide_eq_true_eq, decide_eq_false_iff_not])
local macro_rules | `(tactic| walk_at "mp") => `(tactic| (try dsimp only); (try walk_at "mp1"))
local macro_rules | `(tactic| walk_at "cm") => `(tactic| first | exact cmul_r ⟨by decide, by decide⟩ | exact cmul_l ⟨by decide, by decide⟩ | exact cmul_r ⟨by omega, by omega⟩ | exact cmul_l ⟨by omega, by omega⟩)
def rowsF (two : Plan) (q : Int) : List Edge := (two.edges.filter fun f => decide (f.s = q)).map (shE 1)
noncomputable def bfF (e : Edge) (l : List Edge) : List Stp := (l.filter fun r => decide (r.d = e.d)).map fun r => ⟨e.d, srt barD (e.bars ++ r.bars), e.rs ++ r.rs, (e.g, r.g)⟩
theorem bf_eq (two : Plan) (q : Int) (e : Edge) : bfF e (rowsF two q) = bothF two q e := by
  unfold bfF rowsF bothF
  rw [List.filter_map, List.map_map, List.filter_filter]
  congr 1
  refine List.filter_congr fun f _ => ?_
  show (decide (f.d = e.d) && decide (f.s = q)) = _
  rw [Bool.and_comm]
theorem bf_add (e r : Edge) (l : List Edge) : bfF e (l ++ [r]) = bfF e l ++ (if r.d = e.d then [⟨e.d, srt barD (e.bars ++ r.bars), e.rs ++ r.rs, (e.g, r.g)⟩] else []) := by
  unfold bfF
  rw [List.filter_append, List.map_append]
  by_cases h2 : r.d = e.d
  · rw [if_pos h2, List.filter_cons_of_pos (by simp [h2])]; rfl
  · rw [if_neg h2, List.filter_cons_of_neg (by simpa using h2)]; rfl
theorem bf_le (e : Edge) (l : List Edge) : (bfF e l).length ≤ l.length := by
  unfold bfF
  rw [List.length_map]; exact List.length_filter_le _ _
theorem rows_few {two : Plan} {q : Int} (h : drP 2 two) {r : Edge} (hr : r ∈ rowsF two q) : r.bars.length ≤ 3 ∧ r.rs.length ≤ 2 := by
  unfold rowsF at hr
  obtain ⟨f, hf, rfl⟩ := List.mem_map.mp hr
  have := h.few.2 f (List.mem_filter.mp hf).1
  show (shB 1 f.bars).length ≤ 3 ∧ (shI 1 f.rs).length ≤ 2
  rw [shB, shI, List.length_map, List.length_map]
  exact this
theorem rows_len {two : Plan} {q : Int} (h : drP 2 two) : (rowsF two q).length ≤ 8 := by
  unfold rowsF
  rw [List.length_map]
  exact Nat.le_trans (List.length_filter_le _ _) h.ok.m
theorem rows_d {two : Plan} {q : Int} {r : Edge} (hr : r ∈ rowsF two q) : hasD two r.d = true := by
  unfold rowsF at hr
  obtain ⟨f, hf, rfl⟩ := List.mem_map.mp hr
  exact hasD_iff.mpr (List.mem_map.mpr ⟨f, (List.mem_filter.mp hf).1, rfl⟩)
def shared (one two : Plan) (S : List Int) : Prop := S.length ≤ 8 ∧ ∀ x, x ∈ S ↔ hasD one x = true ∧ hasD two x = true
theorem alone_eq {one two : Plan} {p : PR} {S : List Int} (h : shared one two S) : (((rowsF two p.2).filter fun r => !decide (r.d ∈ S)).map fun r => (⟨r.d, r.bars, r.rs, (p.1, r.g)⟩ : Stp)) = aloneF one two p := by
  unfold rowsF aloneF
  rw [List.filter_map, List.map_map, List.filter_filter]
  have : (two.edges.filter fun f => ((fun r : Edge => !decide (r.d ∈ S)) ∘ shE 1) f && decide (f.s = p.2)) = two.edges.filter fun f => decide (f.s = p.2) && !hasD one f.d := List.filter_congr fun f hf => by
    have h2 : hasD two f.d = true := hasD_iff.mpr (List.mem_map.mpr ⟨f, hf, rfl⟩)
    show (!decide (f.d ∈ S) && decide (f.s = p.2)) = _
    rw [Bool.and_comm]
    congr 1
    congr 1
    rw [Bool.eq_iff_iff, decide_eq_true_iff, h.2]
    exact ⟨fun z => z.1, fun z => ⟨z, h2⟩⟩
  rw [this]; rfl
theorem any_S (S : List Int) (x : Int) : ((S.map D.int).any fun y => eqD y (.int x)) = decide (x ∈ S) := any_enc D.int (fun _ => rfl) (fun a b h => by cases h; rfl) S x
theorem law_joint_steps : FnLaw 19 3 w_joint_steps r_joint_steps := law_newof (fun x M r c n z => by cases z) fun ⟨⟨one, two⟩, pr⟩ ds M cn ⟨e, ok⟩ => by
  obtain ⟨p1, p2⟩ := pr
  subst e
  refine ⟨rfl, ?_⟩
  intro R mkR
  have sz := sizeLine_eq
  have e1 : one.edges.length ≤ 8 := ok.h1.ok.m
  have e2 : two.edges.length ≤ 8 := ok.h2.ok.m
  unfold w_joint_steps rtE
  dsimp only
  refine seq_cut (fun ρ M1 => ∃ a S, ρ = [some (planD one), some (planD two), some (ipD (p1, p2)), some (.ref a), none, none, none, none, none, none, none, none, none, none, none, none, none, none, none] ∧ shared one two S ∧ M1 a = some (.lst (S.map D.int)) ∧ Sub M M1) (fun I mk => ?_) ?_
  · walk_at "mp"
    refine deeds_at ok.h1 fun l hl hm => ?_
    refine lc_encf D.int (fun x => hasD two x) D.int (fun M' => M' = M) l (fun J mkJ x hx M' e => ?_) (by omega) (fun M' e => ?_) _ rfl
    · subst e
      refine ⟨trivial, ?_⟩
      walk_at "mp"
      refine deeds_at ok.h2 fun l2 hl2 hm2 => ?_
      show (rInn false).f (.int x) (.tup (l2.map D.int)) M' _
      rw [e_rInn_tup, any_S, Bool.false_xor]
      have hb : decide (x ∈ l2) = hasD two x := by rw [Bool.eq_iff_iff, decide_eq_true_iff, hm2]
      exact ⟨nbs_pls _ (nbs_map D.int (fun _ => rfl) _), rfl, Nat.le_trans (Nat.min_le_right _ _) (Nat.zero_le _), _, rfl, hb, fun _ => mkJ _ rfl, fun _ => mkJ _ rfl⟩
    · subst e
      refine ⟨trivial, fun a ha => mk _ _ ⟨a, l.filter (fun x => hasD two x), rfl, ⟨Nat.le_trans (List.length_filter_le _ _) hl, fun x => by rw [List.mem_filter, hm]⟩, mupd_same, Sub.new ha⟩⟩
  rintro _ M1 ⟨a, S, rfl, hS, ha1, s1⟩
  refine seq_cut (fun ρ M2 => ∃ q, ρ = [some (planD one), some (planD two), some (ipD (p1, p2)), some (.ref a), some (.ref q), none, none, none, none, none, none, none, none, none, none, none, none, none, none] ∧ M2 q = some (.lst []) ∧ M2 a = some (.lst (S.map D.int)) ∧ q ≠ a ∧ M q = none ∧ Sub M M2) (fun I mk => ?_) ?_
  · walk_at "mp"
    exact ⟨by omega, fun q hq => mk _ _ ⟨q, rfl, mupd_same, Sub.new hq _ _ ha1, (Sub.ne ha1 hq).symm, s1.none hq, s1.trans (Sub.new hq)⟩⟩
  rintro _ M2 ⟨q, rfl, hq2, ha2, qa, hq0, s2⟩
  refine seq_cut (fun ρ M3 => ∃ b, ρ = [some (planD one), some (planD two), some (ipD (p1, p2)), some (.ref a), some (.ref q), some (.ref b), none, none, none, none, none, none, none, none, none, none, none, none, none] ∧ Jn M q a b (S.map D.int) ((rowsF two p2).map edgeD) [] M3) (fun I mk => ?_) ?_
  · rw [plan_def two, ipD]
    walk_at "mp"
    refine lc_encf edgeD (fun f => decide (f.s = p2)) (fun f => edgeD (shE 1 f)) (fun M' => M' = M2) two.edges (fun J mkJ f hf M' e => ?_) (by omega) (fun M' e => ?_) _ rfl
    · subst e
      have few := ok.h2.few.2 f hf
      refine ⟨trivial, ?_⟩
      rw [edge_def, plan_def one, ok.c1]
      walk_at "mp"
      exact ⟨fun _ => shifted_edge_at (e := f) (by omega) (by omega) ⟨rfl, mkJ _ rfl⟩, fun _ => mkJ _ rfl⟩
    · subst e
      refine ⟨trivial, fun b hb => mk _ _ ⟨b, rfl, Sub.new hb _ _ hq2, Sub.new hb _ _ ha2, by rw [mupd_same, rowsF, List.map_map]; rfl, s2.trans (Sub.new hb), hq0, qa, Sub.ne hq2 hb⟩⟩
  rintro _ M3 ⟨b, rfl, j3⟩
  have rl : (rowsF two p2).length ≤ 8 := rows_len ok.h2
  refine seq_cut (fun ρ M4 => ∃ x6 x7 x8 x9 x10 x11 x12 x13 x14 x15, ρ = [some (planD one), some (planD two), some (ipD (p1, p2)), some (.ref a), some (.ref q), some (.ref b), x6, x7, x8, x9, x10, x11, x12, x13, x14, x15, none, none, none] ∧ Jn M q a b (S.map D.int) ((rowsF two p2).map edgeD) ((one.edges.map (oneF two (p1, p2))).flatten) M4) (fun I mk => ?_) ?_
  · rw [plan_def one]
    walk_at "mp"
    refine loop_enc edgeD one.edges (fun pre ρ M4 => ∃ x6 x7 x8 x9 x10 x11 x12 x13 x14 x15, ρ = [some (planD one), some (planD two), some (ipD (p1, p2)), some (.ref a), some (.ref q), some (.ref b), x6, x7, x8, x9, x10, x11, x12, x13, x14, x15, none, none, none] ∧ Jn M q a b (S.map D.int) ((rowsF two p2).map edgeD) ((pre.map (oneF two (p1, p2))).flatten) M4) (fun J mkJ pre e post ρ M4 eb h => ?_) (fun ρ M4 h => ?_) _ _ ⟨_, _, _, _, _, _, _, _, _, _, rfl, j3⟩
    · obtain ⟨x6, x7, x8, x9, x10, x11, x12, x13, x14, x15, rfl, j4⟩ := h
      refine ⟨trivial, ?_⟩
      have hen : e ∈ one.edges := by rw [eb]; simp
      have few := ok.h1.few.2 e hen
      have hpl : pre.length ≤ 8 := by have := congrArg List.length eb; rw [List.length_append, List.length_cons] at this; omega
      have hfl : ((pre.map (oneF two (p1, p2))).flatten).length ≤ 64 := Nat.le_trans (flat_le (fun x => one_dep two (p1, p2) x e2) pre) (by omega)
      have h1e : hasD one e.d = true := hasD_iff.mpr (List.mem_map.mpr ⟨e, hen, rfl⟩)
      have hse : decide (e.d ∈ S) = hasD two e.d := by rw [Bool.eq_iff_iff, decide_eq_true_iff, hS.2]; exact ⟨fun z => z.2, fun z => ⟨h1e, z⟩⟩
      have fin : ∀ (L : List Stp) x11 x12 x13 x14 x15 M5, L = oneF two (p1, p2) e → Jn M q a b (S.map D.int) ((rowsF two p2).map edgeD) ((pre.map (oneF two (p1, p2))).flatten ++ L) M5 → J (pre ++ [e]) [some (planD one), some (planD two), some (ipD (p1, p2)), some (.ref a), some (.ref q), some (.ref b), some (.int e.s), some (.int e.d), some (barsD e.bars), some (isD e.rs), some (.int e.g), x11, x12, x13, x14, x15, none, none, none] M5 := fun L x11 x12 x13 x14 x15 M5 eL j => mkJ _ _ _ ⟨_, _, _, _, _, _, _, _, _, _, rfl, by rw [List.map_append, List.flatten_append]; rw [eL] at j; simpa using j⟩
      have noS : ¬ e.s = p1 → [] = oneF two (p1, p2) e := fun h => by unfold oneF; rw [if_neg h]
      rw [edge_def, ipD] at *
      walk_at "mp"
      refine ⟨rfl, fun h1 => ?_, fun h1 => ⟨fun z => absurd z h1, fun _ => fin [] _ _ _ _ _ _ (noS h1) (by rw [List.append_nil]; exact j4)⟩⟩
      show (rInn true).f (.int e.d) (.ref a) M4 _
      rw [in_lst j4.ka, any_S, Bool.true_xor, hse]
      refine ⟨nbs_pls _ (nbs_map D.int (fun _ => rfl) _), rfl, Nat.le_trans (Nat.min_le_right _ _) (Nat.zero_le _), _, rfl, fun h2 => ?_, fun h2 => ⟨fun _ => ?_, fun z => absurd h1 z⟩⟩
      · have hd : hasD two e.d = false := by simpa using h2
        refine ⟨by rw [ty_lst j4.kq]; trivial, by omega, by omega, _, j4.kq, by rw [List.length_map]; omega, fin [⟨e.d, e.bars, e.rs, (e.g, p2)⟩] _ _ _ _ _ _ (by unfold oneF; rw [if_pos h1, hd, if_neg (by decide)]) (j4.app _ (by rw [List.map_append]; rfl))⟩
      · have hd : hasD two e.d = true := by simpa using h2
        rw [iseq_lst j4.kb]
        refine loop_enc edgeD (rowsF two p2) (fun pre2 ρ M6 => ∃ x11 x12 x13 x14 x15, ρ = [some (planD one), some (planD two), some (ipD (p1, p2)), some (.ref a), some (.ref q), some (.ref b), some (.int e.s), some (.int e.d), some (barsD e.bars), some (isD e.rs), some (.int e.g), x11, x12, x13, x14, x15, none, none, none] ∧ Jn M q a b (S.map D.int) ((rowsF two p2).map edgeD) ((pre.map (oneF two (p1, p2))).flatten ++ bfF e pre2) M6) (fun I2 mk2 pre2 r post2 ρ M6 eb2 h => ?_) (fun ρ M6 h => ?_) _ _ ⟨_, _, _, _, _, rfl, by rw [show bfF e [] = [] from rfl, List.append_nil]; exact j4⟩
        · obtain ⟨x11, x12, x13, x14, x15, rfl, j6⟩ := h
          refine ⟨j6.kb, ?_⟩
          have hrn : r ∈ rowsF two p2 := by rw [eb2]; simp
          have few2 := rows_few ok.h2 hrn
          have hpl2 : pre2.length ≤ 8 := by have := congrArg List.length eb2; rw [List.length_append, List.length_cons] at this; omega
          have hb2 := bf_le e pre2
          have hb3 := bf_add e r pre2
          rw [edge_def] at *
          walk_at "mp"
          refine ⟨rfl, fun h3 => ?_, fun h3 => mk2 _ _ _ ⟨_, _, _, _, _, rfl, by rw [hb3, if_neg h3, List.append_nil]; exact j6⟩⟩
          rw [show barsD e.bars = D.tup (e.bars.map barD) from rfl, show isD e.rs = D.tup (e.rs.map D.int) from rfl]
          walk_at "mp"
          rw [List.length_map, List.length_map, ← List.map_append, ← List.map_append, ty_lst j6.kq]
          refine ⟨trivial, by omega, sorted_bars fun p hp => ?_⟩
          have j7 := j6.new hp (o := .lst ((srt barD (e.bars ++ r.bars)).map barD))
          rw [items_lst mupd_same]
          refine ⟨by rw [List.length_map, List.length_map]; omega, by omega, by omega, _, j7.kq, ?_, mk2 _ _ _ ⟨_, _, _, _, _, rfl, ?_⟩⟩
          · rw [List.length_map, List.length_append]; omega
          · rw [hb3, if_pos h3, ← List.append_assoc]
            exact j7.app _ (by rw [List.map_append (l₂ := [_])]; rfl)
        · obtain ⟨x11, x12, x13, x14, x15, rfl, j6⟩ := h
          exact ⟨j6.kb, fin (bfF e (rowsF two p2)) _ _ _ _ _ _ (by unfold oneF; rw [if_pos h1, if_pos hd]; exact bf_eq two p2 e) j6⟩
    · obtain ⟨x6, x7, x8, x9, x10, x11, x12, x13, x14, x15, rfl, j4⟩ := h
      exact ⟨trivial, mk _ _ ⟨_, _, _, _, _, _, _, _, _, _, rfl, j4⟩⟩
  rintro _ M4 ⟨x6, x7, x8, x9, x10, x11, x12, x13, x14, x15, rfl, j4⟩
  have hfl : ((one.edges.map (oneF two (p1, p2))).flatten).length ≤ 64 := Nat.le_trans (flat_le (fun x => one_dep two (p1, p2) x e2) one.edges) (by omega)
  refine seq_cut (fun ρ M5 => ∃ c, ρ = [some (planD one), some (planD two), some (ipD (p1, p2)), some (.ref a), some (.ref q), some (.ref b), x6, x7, x8, x9, x10, x11, x12, x13, x14, x15, some (.ref c), none, none] ∧ Jn M q a b (S.map D.int) ((rowsF two p2).map edgeD) ((one.edges.map (oneF two (p1, p2))).flatten) M5 ∧ M5 c = some (.lst (((rowsF two p2).filter fun r => !decide (r.d ∈ S)).map edgeD))) (fun I mk => ?_) ?_
  · walk_at "mp"
    rw [iseq_lst j4.kb]
    refine lc_encf edgeD (fun r => !decide (r.d ∈ S)) edgeD (fun M' => M' = M4) (rowsF two p2) (fun J mkJ r hr M' e => ?_) (by omega) (fun M' e => ?_) _ rfl
    · subst e
      refine ⟨j4.kb, ?_⟩
      rw [edge_def]
      walk_at "mp"
      show (rInn true).f (.int r.d) (.ref a) M' _
      rw [in_lst j4.ka, any_S, Bool.true_xor]
      exact ⟨nbs_pls _ (nbs_map D.int (fun _ => rfl) _), rfl, Nat.le_trans (Nat.min_le_right _ _) (Nat.zero_le _), _, rfl, rfl, fun _ => mkJ _ rfl, fun _ => mkJ _ rfl⟩
    · subst e
      refine ⟨j4.kb, fun c hc => mk _ _ ⟨c, rfl, j4.new hc, mupd_same⟩⟩
  rintro _ M5 ⟨c, rfl, j5, hc5⟩
  refine seq_cut (fun ρ M6 => ρ = [some (planD one), some (planD two), some (ipD (p1, p2)), some (.ref a), some (.ref q), some (.ref b), x6, x7, x8, x9, x10, x11, x12, x13, x14, x15, some (.ref c), none, none] ∧ Jn M q a b (S.map D.int) ((rowsF two p2).map edgeD) (JL one two (p1, p2)) M6) (fun I mk => ?_) ?_
  · rw [ipD] at *
    walk_at "mp"
    rw [ty_lst j5.kq]
    refine ⟨trivial, ?_⟩
    rw [iseq_lst hc5]
    have al := alone_eq (one := one) (two := two) (p := (p1, p2)) hS
    have alen : (aloneF one two (p1, p2)).length ≤ 8 := by unfold aloneF; rw [List.length_map]; exact Nat.le_trans (List.length_filter_le _ _) e2
    have flen : ((rowsF two p2).filter fun r => !decide (r.d ∈ S)).length ≤ 8 := Nat.le_trans (List.length_filter_le _ _) rl
    refine lc_enc edgeD (fun r => stD ⟨r.d, r.bars, r.rs, (p1, r.g)⟩) (fun M' => M' = M5) _ (fun J mkJ r hr M' e => ?_) (by omega) (fun M' e => ?_) _ rfl
    · subst e
      refine ⟨hc5, ?_⟩
      rw [edge_def]
      walk_at "mp"
      exact ⟨rfl, by omega, by omega, rfl, mkJ _ rfl⟩
    · subst e
      refine ⟨hc5, fun d hd => ?_⟩
      have j6 := j5.new hd (o := .lst ((((rowsF two p2).filter fun r => !decide (r.d ∈ S)).map fun r => stD ⟨r.d, r.bars, r.rs, (p1, r.g)⟩)))
      refine ⟨_, rfl, _, j6.kq, _, mupd_same, ?_, mk _ _ ⟨rfl, ?_⟩⟩
      · rw [List.length_map, List.length_map]; omega
      · refine j6.app (aloneF one two (p1, p2)) ?_
        rw [List.map_append, ← al, List.map_map]; rfl
  rintro _ M6 ⟨rfl, j6⟩
  walk_at "mp"
  exact sorted_stp' j6.kq fun p hp => mkR p _ _ rfl (j6.s.none hp) mupd_same (j6.s.trans (Sub.new hp))
end K31

namespace K31
open PySem PySem.Spec PyProof.Rows L2 MP
open PL (Bar Edge Plan barD barsD edgeD planD boundsD edgesD okP drP okB okBs okE okNs sg sgs isD deps_le edge_nb edge_dep bars_pl is_nb bars_dep is_dep edge_alike alike_bars alike_is)

local macro_rules | `(tactic| walk_at "mp1") => `(tactic| simp only [e_iPd, e_sRaise, e_sTryN, e_wFld, e_gFld, e_wMe, e_wNew, e_wVar, e_wC, e_wOp, e_wUn, e_aNil, e_aCons, e_wCB, e_wCK, e_wTup, e_wLst, e_wtB, e_wtV, e_wtNot, e_wtAnd, e_wtOr, e_wAnd, e_wOr, e_wNot, e_wIf, e_wChain, e_wSl, e_oNone, e_oSome, e_wBM, e_wLc, e_wLc2, e_wDc, e_wDn, e_wDn2, e_nRng1, e_iRg, e_wRev, e_revF_tup, e_wtYes, e_sNil, e_sSeq, e_sBreak, e_sCont, e_sDrop, e_sRet, e_sRetN, e_sIf, e_sAsg, e_sPar, e_sAug, e_sFor, e_gN, e_gsNil, e_gsCons, e_gT, e_gSubD, e_iSeq, e_iR1, e_iR2, e_iEnumL, e_iEnumT, e_iZipW, e_mAppend, e_mExtend, e_mIndex, e_nLen, e_nTuple, e_nList, e_nBls, e_rIx, e_rIadd_int, e_nSorted, e_nSortedK, e_nSortedS, e_wDNew, e_wDisp2, e_iKy, e_iPr, e_nBest, e_kBestD, e_rAdd_int, e_rAdd_tup, e_rAdd_str, e_rAdd_ref, e_rSub_int, e_rMulA_int, e_rMulA_tup, e_rMulA_ref, e_rFdiv_int, e_rMod_int, e_rPow_int, e_rLe_int, e_rGt_int, e_rGe_int, e_rLt_int, e_rLt_tup, e_rEqn_int, e_rEqn_str, e_rEqn_bl, e_rEqn_tup, e_rEqn_ref, e_rIsn_non, e_rIsn_bl, e_rInn_tup, e_rNeg_int, e_ix_tup, e_ix_fl, len_tup, len_fl, items_tup, items_fl, iseq_tup, iseq_fl, e_nInt_int, e_nInt_bl, e_nInt1_int, e_nInt2_int, e_r2F, e_tru_bl, e_tru_int, e_tru_tup, tn_int, tn_bl, tn_str, tn_non, tn_tup, tn_fl, kb_int_int, kb_int_bool, kb_int_str, kb_int_tuple, kb_int_list, kb_bool_int, kb_bool_bool, kb_bool_str, kb_bool_tuple, kb_bool_list, kb_str_int, kb_str_bool, kb_str_str, kb_str_tuple, kb_str_list, kb_NoneType_int, kb_NoneType_bool, kb_NoneType_str, kb_NoneType_tuple, kb_NoneType_list, kb_tuple_int, kb_tuple_bool, kb_tuple_str, kb_tuple_tuple, kb_tuple_list, kb_list_int, kb_list_bool, kb_list_str, kb_list_tuple, kb_list_list, s_at0, s_at1, s_at2, s_at3, s_at4, s_ex2, startD, List.map_cons, List.map_nil, List.length_cons, List.length_nil, List.replicate_succ, List.replicate_zero, List.cons_append, List.nil_append, List.append_nil, Nat.sub_self, Nat.reduceAdd, Nat.reduceSub, List.getElem?_cons_zero, List.getElem?_cons_succ, List.getElem?_nil, Option.some.injEq, reduceCtorEq, false_and, and_false, exists_false, exists_eq_left', exists_and_left, exists_and_right, exists_eq_right, D.int.injEq, D.bl.injEq, D.str.injEq, D.tup.injEq, D.ref.injEq, D.ty.injEq, List.cons.injEq, and_self, true_and, and_true, exists_eq_left, List.set_cons_zero, List.set_cons_succ, wipeD, forall_const, if_true, false_implies, true_implies, implies_true, Bool.false_eq_true, Bool.true_eq_false, eq_self_iff_true, xor_f, xor_t, Bool.not_true, Bool.not_false, decide_eq_true_eq, decide_eq_false_iff_not])
local macro_rules | `(tactic| walk_at "mp") => `(tactic| (try dsimp only); (try walk_at "mp1"))
local macro_rules | `(tactic| walk_at "cm") => `(tactic| first | exact cmul_r ⟨by decide, by decide⟩ | exact cmul_l ⟨by decide, by decide⟩ | exact cmul_r ⟨by omega, by omega⟩ | exact cmul_l ⟨by omega, by omega⟩)
/-! ### the states as they come: plain facts -/
theorem addO_mem (ord : List PR) (p : PR) : p ∈ addO ord p := by
  unfold addO
  split
  · assumption
  · simp
theorem addO_le (ord : List PR) (p : PR) : ord.length ≤ (addO ord p).length ∧ (addO ord p).length ≤ ord.length + 1 := by
  unfold addO
  split
  · omega
  · rw [List.length_append, List.length_singleton]; omega
theorem addX_le (es : List D) (e : D) : (addX es e).length ≤ es.length + 1 := by
  unfold addX
  split
  · omega
  · rw [List.length_append, List.length_singleton]; omega
theorem fold_ge (at_ : Nat) : ∀ (l : List Stp) (st : Ste), st.1.length ≤ (l.foldl (addS at_) st).1.length
  | [], _ => Nat.le_refl _
  | s :: l, st => Nat.le_trans (addO_le st.1 s.p).1 (fold_ge at_ l (addS at_ st s))
theorem turn_ge (one two : Plan) (n : Nat) (st : Ste) : st.1.length ≤ (turnF one two n st).1.length := by
  unfold turnF
  split
  · exact fold_ge n _ st
  · exact Nat.le_refl _
theorem bfs_ge (one two : Plan) (n : Nat) : ∀ k, (bfs one two n).1.length ≤ (bfs one two (n + k)).1.length
  | 0 => Nat.le_refl _
  | k + 1 => Nat.le_trans (bfs_ge one two n k) (turn_ge one two (n + k) _)
theorem bfs_stop {one two : Plan} {n : Nat} (h : (bfs one two n).1.length ≤ n) : ∀ k, bfs one two (n + k) = bfs one two n
  | 0 => rfl
  | k + 1 => by
    show turnF one two (n + k) (bfs one two (n + k)) = _
    rw [bfs_stop h k]
    unfold turnF
    rw [List.getElem?_eq_none (by omega)]
structure okSt (one two : Plan) (n : Nat) (st : Ste) : Prop where
  pr : ∀ p ∈ st.1, okPr one two p
  ed : ∀ x ∈ st.2, ∃ e : Edge, x = edgeD e
  l1 : st.1.length ≤ n + 1
  l2 : st.2.length ≤ n
theorem okSt.le {one two : Plan} {n m : Nat} {st : Ste} (h : okSt one two n st) (hn : n ≤ m) : okSt one two m st := ⟨h.pr, h.ed, Nat.le_trans h.l1 (by omega), Nat.le_trans h.l2 hn⟩
theorem okSt.add {one two : Plan} {n : Nat} {st : Ste} (h : okSt one two n st) (at_ : Nat) {s : Stp} (hs : okPr one two s.p) : okSt one two (n + 1) (addS at_ st s) := by
  refine ⟨fun p hp => ?_, fun x hx => ?_, ?_, ?_⟩
  · have hp : p ∈ addO st.1 s.p := hp
    unfold addO at hp
    split at hp
    · exact h.pr p hp
    · rcases List.mem_append.mp hp with hp | hp
      · exact h.pr p hp
      · rw [List.mem_singleton.mp hp]; exact hs
  · have hx : x ∈ addX st.2 (edAt at_ (addO st.1 s.p) s) := hx
    unfold addX at hx
    split at hx
    · exact h.ed x hx
    · rcases List.mem_append.mp hx with hx | hx
      · exact h.ed x hx
      · exact ⟨_, List.mem_singleton.mp hx⟩
  · have := (addO_le st.1 s.p).2
    have := h.l1
    show (addO st.1 s.p).length ≤ _
    omega
  · have := addX_le st.2 (edAt at_ (addO st.1 s.p) s)
    have := h.l2
    show (addX st.2 _).length ≤ _
    omega
theorem okSt.fold {one two : Plan} (at_ : Nat) : ∀ {l : List Stp} {n : Nat} {st : Ste}, okSt one two n st → (∀ s ∈ l, okPr one two s.p) → okSt one two (n + l.length) (l.foldl (addS at_) st)
  | [], n, st, h, _ => h
  | s :: l, n, st, h, hl => by
    have h2 := okSt.fold at_ (h.add at_ (hl s List.mem_cons_self)) fun y hy => hl y (List.mem_cons_of_mem _ hy)
    rw [List.length_cons]
    exact h2.le (by omega)
theorem JL_pr {one two : Plan} (ok : okS one two) {p : PR} (hp : okPr one two p) {s : Stp} (hs : s ∈ JL one two p) : okPr one two s.p := by
  unfold JL at hs
  rcases List.mem_append.mp hs with hs | hs
  · obtain ⟨l, hl, hs⟩ := List.mem_flatten.mp hs
    obtain ⟨e, he, rfl⟩ := List.mem_map.mp hl
    have ge := (ok.h1.ok.edges e he).g
    unfold oneF at hs
    split at hs
    · split at hs
      · unfold bothF at hs
        obtain ⟨f, hf, rfl⟩ := List.mem_map.mp hs
        have gf := (ok.h2.ok.edges f (List.mem_filter.mp hf).1).g
        exact ⟨⟨ge.1, by show e.g < _; omega⟩, gf.1, by show f.g < _; omega⟩
      · rw [List.mem_singleton.mp hs]
        exact ⟨⟨ge.1, by show e.g < _; omega⟩, hp.2⟩
    · cases hs
  · unfold aloneF at hs
    obtain ⟨f, hf, rfl⟩ := List.mem_map.mp hs
    have gf := (ok.h2.ok.edges f (List.mem_filter.mp hf).1).g
    exact ⟨hp.1, gf.1, by show f.g < _; omega⟩
theorem JL_len {one two : Plan} (ok : okS one two) (p : PR) : (JL one two p).length ≤ 72 := by
  have e1 : one.edges.length ≤ 8 := ok.h1.ok.m
  have e2 : two.edges.length ≤ 8 := ok.h2.ok.m
  unfold JL
  have h1 := flat_le (fun x => one_dep two p x e2) one.edges
  have h2 : (aloneF one two p).length ≤ 8 := by unfold aloneF; rw [List.length_map]; exact Nat.le_trans (List.length_filter_le _ _) e2
  rw [List.length_append]; omega
theorem JS_pr {one two : Plan} (ok : okS one two) {p : PR} (hp : okPr one two p) {s : Stp} (hs : s ∈ JS one two p) : okPr one two s.p := JL_pr ok hp ((srt_perm stD _).mem_iff.mp hs)
theorem JS_len {one two : Plan} (ok : okS one two) (p : PR) : (JS one two p).length ≤ 72 := by
  unfold JS
  rw [(srt_perm stD _).length_eq]; exact JL_len ok p
theorem okSt.turn {one two : Plan} (ok : okS one two) {n : Nat} {st : Ste} (h : okSt one two n st) (at_ : Nat) : okSt one two (n + 72) (turnF one two at_ st) := by
  unfold turnF
  split
  · next p hp =>
    have hpm := List.mem_of_getElem? hp
    exact (h.fold at_ (fun s hs => JS_pr ok (h.pr p hpm) hs)).le (by have := JS_len ok p; omega)
  · exact h.le (by omega)
theorem bfs_ok {one two : Plan} (ok : okS one two) : ∀ n, okSt one two (72 * n) (bfs one two n)
  | 0 => by
    have n1 := ok.h1.ok.n
    have n2 := ok.h2.ok.n
    refine ⟨fun p hp => ?_, fun x hx => (List.not_mem_nil hx).elim, Nat.le_refl _, Nat.le_refl _⟩
    rw [List.mem_singleton.mp hp]
    exact ⟨⟨Int.le_refl _, by show (0 : Int) < _; omega⟩, Int.le_refl _, by show (0 : Int) < _; omega⟩
  | n + 1 => ((bfs_ok ok n).turn ok n).le (by omega)
theorem find_ip (p : PR) : ∀ ord : List PR, p ∈ ord → ((ord.map ipD).findIdx? fun x => eqD x (ipD p)) = some (ord.idxOf p)
  | y :: ys, h => by
    rw [List.map_cons, List.findIdx?_cons, eqD_dec ipD ipD_nb ipD_inj, List.idxOf_cons]
    by_cases e : y = p
    · subst e
      simp
    · have h2 : p ∈ ys := by
        rcases List.mem_cons.mp h with h | h
        · exact absurd h.symm e
        · exact h
      rw [find_ip p ys h2, decide_eq_false e, show (y == p) = false from beq_eq_false_iff_ne.mpr e]
      rfl
/-- where the states and the edges lie -/
structure Kn (E : List D → MO) (M : Mem) (o x : Addr) (st : Ste) (M' : Mem) : Prop where
  ko : M' o = some (.lst (st.1.map ipD))
  kx : M' x = some (E st.2)
  s : Sub M M'
  n1 : M o = none
  n2 : M x = none
  ne : o ≠ x
theorem Kn.new {E : List D → MO} {M M' : Mem} {o x p : Addr} {st : Ste} (h : Kn E M o x st M') (hp : M' p = none) {u : MO} : Kn E M o x st (mupd M' p u) :=
  ⟨Sub.new hp _ _ h.ko, Sub.new hp _ _ h.kx, h.s.trans (Sub.new hp), h.n1, h.n2, h.ne⟩
theorem Kn.ord {E : List D → MO} {M M' : Mem} {o x : Addr} {st : Ste} (h : Kn E M o x st M') (ord : List PR) {u : MO} (e : u = .lst (ord.map ipD)) : Kn E M o x (ord, st.2) (mupd M' o u) :=
  ⟨by rw [mupd_same, e], by rw [mupd_ne h.ne.symm]; exact h.kx, h.s.upd h.n1, h.n1, h.n2, h.ne⟩
theorem Kn.edg {E : List D → MO} {M M' : Mem} {o x : Addr} {st : Ste} (h : Kn E M o x st M') (es : List D) {u : MO} (e : u = E es) : Kn E M o x (st.1, es) (mupd M' x u) :=
  ⟨by rw [mupd_ne h.ne]; exact h.ko, by rw [mupd_same, e], h.s.upd h.n2, h.n1, h.n2, h.ne⟩
theorem ords_any (ord : List PR) (p : PR) : ((ord.map ipD).any fun x => eqD x (ipD p)) = decide (p ∈ ord) := by
  rw [any_enc ipD ipD_nb ipD_inj]
  exact decide_eq_decide.mpr Iff.rfl
theorem eds_nb {es : List D} (h : ∀ x ∈ es, ∃ e : Edge, x = edgeD e) : D.nbs es = true := by
  induction es with
  | nil => rfl
  | cons x xs ih =>
    obtain ⟨e, rfl⟩ := h x List.mem_cons_self
    simp only [D.nbs, edge_nb e, ih fun y hy => h y (List.mem_cons_of_mem _ hy), Bool.and_self]
theorem bounds_at {p : Plan} (h : drP 2 p) {i : Int} (h0 : 0 ≤ i) (h1 : i < p.bounds.length) : (p.bounds.map barsD)[i.toNat]? = some (barsD (bAt p i)) ∧ (bAt p i).length ≤ 3 := by
  have hi : i.toNat < p.bounds.length := by omega
  unfold bAt
  rw [List.getElem?_map, List.getElem?_eq_getElem hi]
  exact ⟨rfl, h.few.1 _ (List.getElem_mem hi)⟩
end K31

namespace K31
open PySem PySem.Spec PyProof.Rows L2 MP
open PL (Bar Edge Plan barD barsD edgeD planD boundsD edgesD okP drP okB okBs okE okNs sg sgs isD deps_le edge_nb edge_dep bars_pl is_nb bars_dep is_dep edge_alike alike_bars alike_is)

local macro_rules | `(tactic| walk_at "mp1") => `(tactic| simp only [e_iPd, e_sRaise, e_sTryN, e_wFld, e_gFld, e_wMe, e_wNew, e_wVar, e_wC, e_wOp, e_wUn, e_aNil, e_aCons, e_wCB, e_wCK, e_wTup, e_wLst, e_wtB, e_wtV, e_wtNot, e_wtAnd, e_wtOr, e_wAnd, e_wOr, e_wNot, e_wIf, e_wChain, e_wSl, e_oNone, e_oSome, e_wBM, e_wLc, e_wLc2, e_wDc, e_wDn, e_wDn2, e_nRng1, e_iRg, e_wRev, e_revF_tup, e_wtYes, e_sNil, e_sSeq, e_sBreak, e_sCont, e_sDrop, e_sRet, e_sRetN, e_sIf, e_sAsg, e_sPar, e_sAug, e_sFor, e_gN, e_gsNil, e_gsCons, e_gT, e_gSubD, e_iSeq, e_iR1, e_iR2, e_iEnumL, e_iEnumT, e_iZipW, e_mAppend, e_mExtend, e_mIndex, e_nLen, e_nTuple, e_nList, e_nBls, e_rIx, e_rIadd_int, e_nSorted, e_nSortedK, e_nSortedS, e_wDNew, e_wDisp2, e_iKy, e_iPr, e_nBest, e_kBestD, e_rAdd_int, e_rAdd_tup, e_rAdd_str, e_rAdd_ref, e_rSub_int, e_rMulA_int, e_rMulA_tup, e_rMulA_ref, e_rFdiv_int, e_rMod_int, e_rPow_int, e_rLe_int, e_rGt_int, e_rGe_int, e_rLt_int, e_rLt_tup, e_rEqn_int, e_rEqn_str, e_rEqn_bl, e_rEqn_tup, e_rEqn_ref, e_rIsn_non, e_rIsn_bl, e_rInn_tup, e_rNeg_int, e_ix_tup, e_ix_fl, len_tup, len_fl, items_tup, items_fl, iseq_tup, iseq_fl, e_nInt_int, e_nInt_bl, e_nInt1_int, e_nInt2_int, e_r2F, e_tru_bl, e_tru_int, e_tru_tup, tn_int, tn_bl, tn_str, tn_non, tn_tup, tn_fl, kb_int_int, kb_int_bool, kb_int_str, kb_int_tuple, kb_int_list, kb_bool_int, kb_bool_bool, kb_bool_str, kb_bool_tuple, kb_bool_list, kb_str_int, kb_str_bool, kb_str_str, kb_str_tuple, kb_str_list, kb_NoneType_int, kb_NoneType_bool, kb_NoneType_str, kb_NoneType_tuple, kb_NoneType_list, kb_tuple_int, kb_tuple_bool, kb_tuple_str, kb_tuple_tuple, kb_tuple_list, kb_list_int, kb_list_bool, kb_list_str, kb_list_tuple, kb_list_list, s_at0, s_at1, s_at2, s_at3, s_at4, s_ex2, startD, List.map_cons, List.map_nil, List.length_cons, List.length_nil, List.replicate_succ, List.replicate_zero, List.cons_append, List.nil_append, List.append_nil, Nat.sub_self, Nat.reduceAdd, Nat.reduceSub, List.getElem?_cons_zero, List.getElem?_cons_succ, List.getElem?_nil, Option.some.injEq, reduceCtorEq, false_and, and_false, exists_false, exists_eq_left', exists_and_left, exists_and_right, exists_eq_right, D.int.injEq, D.bl.injEq, D.str.injEq, D.tup.injEq, D.ref.injEq, D.ty.injEq, List.cons.injEq, and_self, true_and, and_true, exists_eq_left, List.set_cons_zero, List.set_cons_succ, wipeD, forall_const, if_true, false_implies, true_implies, implies_true, Bool.false_eq_true, Bool.true_eq_false, eq_self_iff_true, xor_f, xor_t, Bool.not_true, Bool.not_false, decide_eq_true_eq, decide_eq_false_iff_not])
local macro_rules | `(tactic| walk_at "mp") => `(tactic| (try dsimp only); (try walk_at "mp1"))
local macro_rules | `(tactic| walk_at "cm") => `(tactic| first | exact cmul_r ⟨by decide, by decide⟩ | exact cmul_l ⟨by decide, by decide⟩ | exact cmul_r ⟨by omega, by omega⟩ | exact cmul_l ⟨by omega, by omega⟩)
theorem ljoint_at {one two : Plan} {p : PR} {M : Mem} {Q : D → Mem → Prop} (ok : okS one two) (q : ∀ a, M a = none → Q (.ref a) (mupd M a (.lst ((JS one two p).map stD)))) : r__law_joint.f [planD one, planD two, ipD p] M Q := ⟨((one, two), p), ⟨rfl, ok⟩, fun o e a ha => by rw [e]; exact q a ha⟩
theorem turn_at {one two : Plan} {n : Nat} {st : Ste} {p : PR} (h : st.1[n]? = some p) : turnF one two n st = (JS one two p).foldl (addS n) st := by
  unfold turnF; rw [h]
theorem turn_no {one two : Plan} {n : Nat} {st : Ste} (h : st.1.length ≤ n) : turnF one two n st = st := by
  unfold turnF; rw [List.getElem?_eq_none h]
theorem c_two {one two : Plan} (ok : okJ one two) (h : ¬ one.c + two.c > 2) : okS one two := by
  have := ok.h1.ok.c
  have := ok.c
  exact { ok with c1 := by omega }
theorem atI_pos {xs : List D} {i : Int} {v : D} (h0 : 0 ≤ i) (h : xs[i.toNat]? = some v) : atI xs i = some v := by
  rw [show i = ((i.toNat : Nat) : Int) by omega]
  exact atI_nat h
theorem jends_eq (one two : Plan) (ord : List PR) : (((List.range ord.length).filter fun k => match ord[k]? with
  | some p => decide (p.1 ∈ one.ends) && decide (p.2 ∈ two.ends)
  | none => false).map (riD 0)) = (jends one two ord).map D.int := by
  unfold jends
  rw [List.map_map]
  refine List.map_congr_left fun k _ => ?_
  show D.int (0 + ((k : Nat) : Int)) = D.int ((k : Nat) : Int)
  rw [Int.zero_add]
theorem sorted_eds {a : Addr} {es : List D} {M : Mem} {Q : List D → Addr → Prop} (h : M a = some (.lst es)) (he : ∀ x ∈ es, ∃ e : Edge, x = edgeD e) (q : ∀ p, M p = none → Q es p) :
    ∃ xs, M a = some (.lst xs) ∧ PySem.W.AllAlike (xs.map D.py) ∧ PySem.W.Sortable (xs.map D.py) ∧ (∀ x ∈ xs, x.pl ∧ x.dep ≤ 60) ∧ ∀ p, M p = none → Q xs p := by
  refine ⟨_, h, fun d hd d' hd' => ?_, .inl fun d hd => ?_, fun x hx => ?_, q⟩
  · obtain ⟨x, hx, rfl⟩ := List.mem_map.mp hd
    obtain ⟨y, hy, rfl⟩ := List.mem_map.mp hd'
    obtain ⟨e, rfl⟩ := he x hx
    obtain ⟨f, rfl⟩ := he y hy
    exact edge_alike e f
  · obtain ⟨x, hx, rfl⟩ := List.mem_map.mp hd
    obtain ⟨e, rfl⟩ := he x hx
    exact ⟨_, _, rfl⟩
  · obtain ⟨e, rfl⟩ := he x hx
    exact ⟨MP.nb_pl _ (edge_nb e), Nat.le_trans (edge_dep e) (by decide)⟩
theorem law__law_joined : FnLaw 18 2 w__law_joined r__law_joined := law_of fun ⟨one, two⟩ ds M cn ⟨e, ok⟩ => by
  subst e
  refine ⟨rfl, ?_⟩
  intro R mkR
  have sz := sizeLine_eq
  dsimp only at ok mkR
  have mkR : ∀ d M', d = oD (joinedF one two) → Sub M M' → R d M' := mkR
  unfold w__law_joined rtE
  refine seq_cut (fun ρ M1 => ρ = [some (planD one), some (planD two), none, none, none, none, none, none, none, none, none, none, none, none, none, none, none, none] ∧ M = M1 ∧ ¬ one.c + two.c > 2) (fun I mk => ?_) ?_
  · rw [plan_def one, plan_def two]
    walk_at "mp"
    exact ⟨fun h => mkR _ _ (by unfold joinedF; rw [if_pos h]; rfl) Sub.refl, fun h => mk _ _ ⟨rfl, rfl, by omega⟩⟩
  rintro _ _ ⟨rfl, rfl, hc⟩
  have okk := c_two ok hc
  refine seq_cut (fun ρ M1 => ∃ o, ρ = [some (planD one), some (planD two), some (.ref o), none, none, none, none, none, none, none, none, none, none, none, none, none, none, none] ∧ M o = none ∧ M1 o = some (.lst [ipD (0, 0)]) ∧ Sub M M1) (fun I mk => ?_) ?_
  · walk_at "mp"
    exact ⟨by omega, by omega, fun o ho => mk _ _ ⟨o, rfl, ho, mupd_same, Sub.new ho⟩⟩
  rintro _ M1 ⟨o, rfl, ho, ho1, s1⟩
  refine seq_cut (fun ρ M2 => ∃ x, ρ = [some (planD one), some (planD two), some (.ref o), some (.ref x), none, none, none, none, none, none, none, none, none, none, none, none, none, none] ∧ Kn MO.lst M o x (bfs one two 0) M2) (fun I mk => ?_) ?_
  · walk_at "mp"
    exact ⟨by omega, fun x hx => mk _ _ ⟨x, rfl, Sub.new hx _ _ ho1, mupd_same, s1.trans (Sub.new hx), ho, s1.none hx, Sub.ne ho1 hx⟩⟩
  rintro _ M2 ⟨x, rfl, k2⟩
  refine seq_cut (fun ρ M3 => ∃ x4 x5 x6 x7 x8 x9, ρ = [some (planD one), some (planD two), some (.ref o), some (.ref x), x4, x5, x6, x7, x8, x9, none, none, none, none, none, none, none, none] ∧ Kn MO.lst M o x (bfs one two 16) M3) (fun I mk => ?_) ?_
  · walk_at "mp"
    refine ⟨by decide, by decide, ?_⟩
    refine loop_r0 (fun i ρ M3 => ∃ x4 x5 x6 x7 x8 x9, ρ = [some (planD one), some (planD two), some (.ref o), some (.ref x), x4, x5, x6, x7, x8, x9, none, none, none, none, none, none, none, none] ∧ Kn MO.lst M o x (bfs one two i) M3) ?step ?fin _ _ ⟨_, _, _, _, _, _, rfl, k2⟩
    case fin => exact fun ρ M3 h => mk _ _ h
    case step =>
      rintro J mkJ i ρ M3 hi ⟨x4, x5, x6, x7, x8, x9, rfl, k3⟩
      have hi16 : i < 16 := hi
      have bo := (bfs_ok okk i).le (m := 72 * 15) (by omega)
      walk_at "mp"
      rw [len_lst k3.ko, List.length_map]
      refine ⟨fun h1 => ?_, fun h1 => mkJ _ _ _ ⟨_, _, _, _, _, _, rfl, by show Kn MO.lst M o x (turnF one two i (bfs one two i)) M3; rw [turn_no (by omega)]; exact k3⟩⟩
      have h1 : i < (bfs one two i).1.length := by omega
      have hp := List.getElem?_eq_getElem h1
      generalize hpp : (bfs one two i).1[i] = p at hp
      have okp := bo.pr p (List.mem_of_getElem? hp)
      rw [ix_lst k3.ko]
      refine ⟨ipD p, atI_nat (by rw [List.getElem?_map, hp]; rfl), ljoint_at okk fun q hq => ?_⟩
      rw [iseq_lst mupd_same]
      have jl := JS_len okk p
      refine loop_enc stD (JS one two p) (fun pre ρ M4 => ∃ x5 x6 x7 x8 x9, ρ = [some (planD one), some (planD two), some (.ref o), some (.ref x), some (.int ((i : Nat) : Int)), x5, x6, x7, x8, x9, none, none, none, none, none, none, none, none] ∧ Kn MO.lst M o x (pre.foldl (addS i) (bfs one two i)) M4 ∧ M4 q = some (.lst ((JS one two p).map stD)) ∧ q ≠ o ∧ q ≠ x) (fun J2 mk2 pre s post ρ M4 eb h => ?_) (fun ρ M4 h => ?_) _ _ ⟨_, _, _, _, _, rfl, k3.new hq, mupd_same, (Sub.ne k3.ko hq).symm, (Sub.ne k3.kx hq).symm⟩
      · obtain ⟨x5, x6, x7, x8, x9, rfl, k4, q4, qo, qx⟩ := h
        refine ⟨q4, ?_⟩
        have hsn : s ∈ JS one two p := by rw [eb]; simp
        have hpl : pre.length ≤ 72 := by have := congrArg List.length eb; rw [List.length_append, List.length_cons] at this; omega
        have bo2 := (bo.fold i fun s hs => JS_pr okk okp (by rw [eb]; exact List.mem_append_left _ hs)).le (m := 2000) (by omega)
        have fs : ∀ x9 M5, Kn MO.lst M o x (addS i (pre.foldl (addS i) (bfs one two i)) s) M5 → M5 q = some (.lst ((JS one two p).map stD)) → J2 (pre ++ [s]) [some (planD one), some (planD two), some (.ref o), some (.ref x), some (.int ((i : Nat) : Int)), some (.int s.d), some (barsD s.bars), some (isD s.rs), some (ipD s.p), x9, none, none, none, none, none, none, none, none] M5 := fun x9 M5 k q' => mk2 _ _ _ ⟨_, _, _, _, _, rfl, by rw [List.foldl_append]; exact k, q', qo, qx⟩
        generalize pre.foldl (addS i) (bfs one two i) = st at *
        refine ⟨_, rfl, rfl, _, _, rfl, _, _, rfl, _, _, rfl, _, _, rfl, rfl, ?_⟩
        simp only [e_gN, List.set_cons_succ, List.set_cons_zero]
        have bo3 := bo2.add i (JS_pr okk okp hsn)
        refine seq_cut (fun ρ M5 => ρ = [some (planD one), some (planD two), some (.ref o), some (.ref x), some (.int ((i : Nat) : Int)), some (.int s.d), some (barsD s.bars), some (isD s.rs), some (ipD s.p), x9, none, none, none, none, none, none, none, none] ∧ Kn MO.lst M o x (addO st.1 s.p, st.2) M5 ∧ M5 q = some (.lst ((JS one two p).map stD))) (fun I' mk' => ?_) ?_
        · walk_at "mp"
          show (rInn true).f (ipD s.p) (.ref o) M4 _
          rw [in_lst k4.ko, ords_any, Bool.true_xor]
          refine ⟨nbs_pls _ (nbs_map ipD ipD_nb _), rfl, Nat.le_trans (Nat.min_le_right _ _) (by show 1 ≤ 60; decide), _, rfl, fun h => ?_, fun h => mk' _ _ ⟨rfl, ?_, q4⟩⟩
          · have hn : s.p ∉ st.1 := by simpa using h
            have el : addO st.1 s.p = st.1 ++ [s.p] := by unfold addO; rw [if_neg hn]
            have l1 := bo2.l1
            rw [ty_lst k4.ko]
            refine ⟨trivial, _, k4.ko, by rw [List.length_map]; omega, mk' _ _ ⟨rfl, ?_, by rw [mupd_ne qo]; exact q4⟩⟩
            exact k4.ord _ (by rw [el, List.map_append]; rfl)
          · have hn : s.p ∈ st.1 := by simpa using h
            have el : addO st.1 s.p = st.1 := by unfold addO; rw [if_pos hn]
            rw [el]; exact k4
        rintro _ M5 ⟨rfl, k5, q5⟩
        refine seq_cut (fun ρ M6 => ρ = [some (planD one), some (planD two), some (.ref o), some (.ref x), some (.int ((i : Nat) : Int)), some (.int s.d), some (barsD s.bars), some (isD s.rs), some (ipD s.p), some (edAt i (addO st.1 s.p) s), none, none, none, none, none, none, none, none] ∧ M5 = M6) (fun I' mk' => ?_) ?_
        · walk_at "mp"
          rw [ty_lst k5.ko]
          refine ⟨trivial, _, k5.ko, nbs_pls _ (nbs_map ipD ipD_nb _), rfl, Nat.le_trans (Nat.min_le_right _ _) (by show 1 ≤ 60; decide), _, find_ip s.p _ (addO_mem _ _), by omega, mk' _ _ ⟨rfl, rfl⟩⟩
        rintro _ _ ⟨rfl, rfl⟩
        walk_at "mp"
        show (rInn true).f (edAt i (addO st.1 s.p) s) (.ref x) M5 _
        rw [in_lst k5.kx, Bool.true_xor]
        refine ⟨nbs_pls _ (eds_nb bo2.ed), MP.nb_pl _ (edge_nb _), Nat.le_trans (Nat.min_le_right _ _) (Nat.le_trans (edge_dep _) (by decide)), _, rfl, fun h => ?_, fun h => fs _ _ ?_ q5⟩
        · have hn : (st.2.any fun y => eqD y (edAt i (addO st.1 s.p) s)) = false := by simpa using h
          have el : addX st.2 (edAt i (addO st.1 s.p) s) = st.2 ++ [edAt i (addO st.1 s.p) s] := by unfold addX; rw [if_neg (by rw [hn]; decide)]
          have l2 := bo2.l2
          rw [ty_lst k5.kx]
          refine ⟨trivial, _, k5.kx, by show st.2.length < sizeLine; omega, fs _ _ (k5.edg _ ?_) (by rw [mupd_ne qx]; exact q5)⟩
          rw [el]
        · have hn : (st.2.any fun y => eqD y (edAt i (addO st.1 s.p) s)) = true := by simpa using h
          have el : addX st.2 (edAt i (addO st.1 s.p) s) = st.2 := by unfold addX; rw [if_pos hn]
          unfold addS
          rw [el]; exact k5
      · obtain ⟨x5, x6, x7, x8, x9, rfl, k4, q4, qo, qx⟩ := h
        exact ⟨q4, mkJ _ _ _ ⟨_, _, _, _, _, _, rfl, by show Kn MO.lst M o x (turnF one two i (bfs one two i)) M4; rw [turn_at hp]; exact k4⟩⟩
  rintro _ M3 ⟨x4, x5, x6, x7, x8, x9, rfl, k3⟩
  have bo := bfs_ok okk 16
  have jF : joinedF one two = if (bfs one two 16).1.length > 4 ∨ (bfs one two 16).2.length > 8 then none else some (joinedD one two (bfs one two 16)) := by unfold joinedF; rw [if_neg hc]
  generalize bfs one two 16 = st at *
  refine seq_cut (fun ρ M4 => ρ = [some (planD one), some (planD two), some (.ref o), some (.ref x), x4, x5, x6, x7, x8, x9, none, none, none, none, none, none, none, none] ∧ M3 = M4 ∧ ¬ (st.1.length > 4 ∨ st.2.length > 8)) (fun I mk => ?_) ?_
  · walk_at "mp"
    rw [len_lst k3.ko, List.length_map, len_lst k3.kx]
    refine ⟨fun h => mkR _ _ (by rw [jF, if_pos (.inl (by omega))]; rfl) k3.s, fun h => ⟨fun h2 => mkR _ _ (by rw [jF, if_pos (.inr (by omega))]; rfl) k3.s, fun h2 => mk _ _ ⟨rfl, rfl, by omega⟩⟩⟩
  rintro _ _ ⟨rfl, rfl, hs⟩
  rw [if_neg hs] at jF
  refine seq_cut (fun ρ M4 => ρ = [some (planD one), some (planD two), some (.ref o), some (.ref x), x4, x5, x6, x7, x8, x9, some (.tup []), none, none, none, none, none, none, none] ∧ M3 = M4) (fun I mk => ?_) ?_
  · walk_at "mp"
    exact ⟨by omega, mk _ _ ⟨rfl, rfl⟩⟩
  rintro _ _ ⟨rfl, rfl⟩
  refine seq_cut (fun ρ M4 => ∃ x11 x12, ρ = [some (planD one), some (planD two), some (.ref o), some (.ref x), x4, x5, x6, x7, x8, x9, some (.tup (st.1.map fun p => barsD (jb one two p))), x11, x12, none, none, none, none, none] ∧ Kn MO.lst M o x st M4) (fun I mk => ?_) ?_
  · walk_at "mp"
    rw [iseq_lst k3.ko]
    refine loop_enc ipD st.1 (fun pre ρ M4 => ∃ x11 x12, ρ = [some (planD one), some (planD two), some (.ref o), some (.ref x), x4, x5, x6, x7, x8, x9, some (.tup (pre.map fun p => barsD (jb one two p))), x11, x12, none, none, none, none, none] ∧ Kn MO.lst M o x st M4) (fun J mkJ pre p post ρ M4 eb h => ?_) (fun ρ M4 h => ?_) _ _ ⟨_, _, rfl, k3⟩
    · obtain ⟨x11, x12, rfl, k4⟩ := h
      refine ⟨k4.ko, ?_⟩
      have hpn : p ∈ st.1 := by rw [eb]; simp
      have hpl : pre.length ≤ 4 := by have := congrArg List.length eb; rw [List.length_append, List.length_cons] at this; omega
      have okp := bo.pr p hpn
      obtain ⟨b1, c1⟩ := bounds_at okk.h1 okp.1.1 okp.1.2
      obtain ⟨b2, c2⟩ := bounds_at okk.h2 okp.2.1 okp.2.2
      have fs : ∀ M5, Kn MO.lst M o x st M5 → J (pre ++ [p]) [some (planD one), some (planD two), some (.ref o), some (.ref x), x4, x5, x6, x7, x8, x9, some (.tup ((pre.map fun p => barsD (jb one two p)) ++ [barsD (jb one two p)])), some (.int p.1), some (.int p.2), none, none, none, none, none] M5 := fun M5 k => mkJ _ _ _ ⟨_, _, by rw [List.map_append]; rfl, k⟩
      rw [plan_def one, plan_def two, ipD]
      rw [plan_def one, plan_def two] at fs
      walk_at "mp"
      refine ⟨rfl, _, atI_pos okp.1.1 b1, _, atI_pos okp.2.1 b2, ?_⟩
      rw [show barsD (bAt two p.2) = D.tup ((bAt two p.2).map barD) from rfl, iseq_tup]
      refine lc_enc barD (fun b => barD (shb 1 b)) (fun M' => M' = M4) _ (fun J' mkJ' b hb M' e => ?_) (by omega) (fun M' e => ?_) _ rfl
      · subst e
        refine ⟨trivial, ?_⟩
        rw [bar_def]
        walk_at "mp"
        exact ⟨rfl, by omega, rfl, mkJ' _ rfl⟩
      · subst e
        refine ⟨trivial, fun c hc => ?_⟩
        have k5 := k4.new hc (u := .lst ((bAt two p.2).map fun b => barD (shb 1 b)))
        rw [items_lst mupd_same, show barsD (bAt one p.1) = D.tup ((bAt one p.1).map barD) from rfl]
        generalize mupd M' c (.lst ((bAt two p.2).map fun b => barD (shb 1 b))) = M5 at k5
        have e2 : (bAt two p.2).map (fun b => barD (shb 1 b)) = (shB 1 (bAt two p.2)).map barD := by unfold shB; rw [List.map_map]; rfl
        have l2 : (shB 1 (bAt two p.2)).length ≤ 3 := by unfold shB; rw [List.length_map]; exact c2
        rw [e2]
        walk_at "mp"
        rw [← List.map_append, List.length_map, List.length_map]
        refine ⟨by omega, sorted_bars fun d hd => ?_⟩
        rw [items_lst mupd_same]
        exact ⟨by omega, by rw [List.length_map]; omega, fs _ (k5.new hd)⟩
    · obtain ⟨x11, x12, rfl, k4⟩ := h
      exact ⟨k4.ko, mk _ _ ⟨_, _, rfl, k4⟩⟩
  rintro _ M4 ⟨x11, x12, rfl, k4⟩
  refine seq_cut (fun ρ M5 => ρ = [some (planD one), some (planD two), some (.ref o), some (.ref x), x4, x5, x6, x7, x8, x9, some (.tup (st.1.map fun p => barsD (jb one two p))), x11, x12, some (isD (jends one two st.1)), none, none, none, none] ∧ Kn MO.lst M o x st M5) (fun I mk => ?_) ?_
  · walk_at "mp"
    rw [len_lst k4.ko, List.length_map]
    refine ⟨by omega, by omega, ?_⟩
    rw [rng_enc, Int.toNat_natCast]
    refine lc_encf (riD 0) (fun k => match st.1[k]? with
      | some p => decide (p.1 ∈ one.ends) && decide (p.2 ∈ two.ends)
      | none => false) (riD 0) (fun M' => M' = M4) _ (fun J' mkJ' k hk M' e => ?_) (by rw [List.length_range]; omega) (fun M' e => ?_) _ rfl
    · subst e
      have hk := List.mem_range.mp hk
      have hp := List.getElem?_eq_getElem hk
      generalize st.1[k] = p at hp
      refine ⟨trivial, ?_⟩
      rw [riD, Int.zero_add, plan_def one, plan_def two, hp]
      walk_at "mp"
      rw [ix_lst k4.ko]
      refine ⟨ipD p, atI_nat (by rw [List.getElem?_map, hp]; rfl), ?_⟩
      unfold ipD
      walk_at "mp"
      rw [any_S]
      have cl : D.pls (one.ends.map D.int) ∧ D.pls (two.ends.map D.int) := ⟨nbs_pls _ (nbs_map D.int (fun _ => rfl) _), nbs_pls _ (nbs_map D.int (fun _ => rfl) _)⟩
      refine ⟨cl.1, rfl, Nat.le_trans (Nat.min_le_right _ _) (Nat.zero_le _), fun h1 => ?_, fun h1 => ⟨by rw [h1]; rfl, mkJ' _ rfl⟩⟩
      rw [ix_lst k4.ko]
      refine ⟨ipD p, atI_nat (by rw [List.getElem?_map, hp]; rfl), ?_⟩
      unfold ipD
      walk_at "mp"
      rw [any_S]
      refine ⟨cl.2, rfl, Nat.le_trans (Nat.min_le_right _ _) (Nat.zero_le _), by rw [h1]; rfl, fun _ => mkJ' _ rfl, fun _ => mkJ' _ rfl⟩
    · subst e
      refine ⟨trivial, fun c hc => ?_⟩
      rw [items_lst mupd_same, jends_eq]
      exact mk _ _ ⟨rfl, k4.new hc⟩
  rintro _ M5 ⟨rfl, k5⟩
  walk_at "mp"
  refine sorted_eds k5.kx bo.ed fun d hd => ?_
  rw [items_lst mupd_same]
  refine ⟨by omega, mkR _ _ (by rw [jF]; rfl) (k5.s.trans (Sub.new hd))⟩
end K31

namespace K31
open PySem PySem.Spec PyProof.Rows L2 MP
open PL (Bar Edge Plan barD barsD edgeD planD boundsD edgesD okP drP okB okBs okE okNs sg sgs isD deps_le edge_nb edge_dep bars_pl is_nb bars_dep is_dep edge_alike alike_bars alike_is)

local macro_rules | `(tactic| walk_at "mp1") => `(tactic| simp only [e_iPd, e_sRaise, e_sTryN, e_wFld, e_gFld, e_wMe, e_wNew, e_wVar, e_wC, e_wOp, e_wUn, e_aNil, e_aCons, e_wCB, e_wCK, e_wTup, e_wLst, e_wtB, e_wtV, e_wtNot, e_wtAnd, e_wtOr, e_wAnd, e_wOr, e_wNot, e_wIf, e_wChain, e_wSl, e_oNone, e_oSome, e_wBM, e_wLc, e_wLc2, e_wDc, e_wDn, e_wDn2, e_nRng1, e_iRg, e_wRev, e_revF_tup, e_wtYes, e_sNil, e_sSeq, e_sBreak, e_sCont, e_sDrop, e_sRet, e_sRetN, e_sIf, e_sAsg, e_sPar, e_sAug, e_sFor, e_gN, e_gsNil, e_gsCons, e_gT, e_gSubD, e_iSeq, e_iR1, e_iR2, e_iEnumL, e_iEnumT, e_iZipW, e_mAppend, e_mExtend, e_mIndex, e_nLen, e_nTuple, e_nList, e_nBls, e_rIx, e_rIadd_int, e_nSorted, e_nSortedK, e_nSortedS, e_wDNew, e_wDisp2, e_iKy, e_iPr, e_nBest, e_kBestD, e_rAdd_int, e_rAdd_tup, e_rAdd_str, e_rAdd_ref, e_rSub_int, e_rMulA_int, e_rMulA_tup, e_rMulA_ref, e_rFdiv_int, e_rMod_int, e_rPow_int, e_rLe_int, e_rGt_int, e_rGe_int, e_rLt_int, e_rLt_tup, e_rEqn_int, e_rEqn_str, e_rEqn_bl, e_rEqn_tup, e_rEqn_ref, e_rIsn_non, e_rIsn_bl, e_rInn_tup, e_rNeg_int, e_ix_tup, e_ix_fl, len_tup, len_fl, items_tup, items_fl, iseq_tup, iseq_fl, e_nInt_int, e_nInt_bl, e_nInt1_int, e_nInt2_int, e_r2F, e_tru_bl, e_tru_int, e_tru_tup, tn_int, tn_bl, tn_str, tn_non, tn_tup, tn_fl, kb_int_int, kb_int_bool, kb_int_str, kb_int_tuple, kb_int_list, kb_bool_int, kb_bool_bool, kb_bool_str, kb_bool_tuple, kb_bool_list, kb_str_int, kb_str_bool, kb_str_str, kb_str_tuple, kb_str_list, kb_NoneType_int, kb_NoneType_bool, kb_NoneType_str, kb_NoneType_tuple, kb_NoneType_list, kb_tuple_int, kb_tuple_bool, kb_tuple_str, kb_tuple_tuple, kb_tuple_list, kb_list_int, kb_list_bool, kb_list_str, kb_list_tuple, kb_list_list, s_at0, s_at1, s_at2, s_at3, s_at4, s_ex2, startD, List.map_cons, List.map_nil, List.length_cons, List.length_nil, List.replicate_succ, List.replicate_zero, List.cons_append, List.nil_append, List.append_nil, Nat.sub_self, Nat.reduceAdd, Nat.reduceSub, List.getElem?_cons_zero, List.getElem?_cons_succ, List.getElem?_nil, Option.some.injEq, reduceCtorEq, false_and, and_false, exists_false, exists_eq_left', exists_and_left, exists_and_right, exists_eq_right, D.int.injEq, D.bl.injEq, D.str.injEq, D.tup.injEq, D.ref.injEq, D.ty.injEq, List.cons.injEq, and_self, true_and, and_true, exists_eq_left, List.set_cons_zero, List.set_cons_succ, wipeD, forall_const, if_true, false_implies, true_implies, implies_true, Bool.false_eq_true, Bool.true_eq_false, eq_self_iff_true, xor_f, xor_t, Bool.not_true, Bool.not_false, decide_eq_true_eq, decide_eq_false_iff_not])
local macro_rules | `(tactic| walk_at "mp") => `(tactic| (try dsimp only); (try walk_at "mp1"))
local macro_rules | `(tactic| walk_at "cm") => `(tactic| first | exact cmul_r ⟨by decide, by decide⟩ | exact cmul_l ⟨by decide, by decide⟩ | exact cmul_r ⟨by omega, by omega⟩ | exact cmul_l ⟨by omega, by omega⟩)
/-! ### keys that are tuples of anything plain -/
mutual
theorem key_some : ∀ (d : D), d.nb = true → ∃ k, d.key = some k ∧ k.depth ≤ d.dep
  | .non, _ => ⟨_, rfl, Nat.zero_le _⟩
  | .int _, _ => ⟨_, rfl, Nat.zero_le _⟩
  | .str _, _ => ⟨_, rfl, Nat.zero_le _⟩
  | .tup xs, h => by
    obtain ⟨ks, e, l⟩ := keys_some xs (by simpa only [D.nb] using h)
    refine ⟨.tup ks, by rw [D.key, e]; rfl, ?_⟩
    rw [dep_tup]
    simp only [NestedKey.depth]
    omega
  | .bl _, h => by simp [D.nb] at h
  | .fl _, h => by simp [D.nb] at h
  | .ref _, h => by simp [D.nb] at h
  | .ty _, h => by simp [D.nb] at h
theorem keys_some : ∀ (ds : List D), D.nbs ds = true → ∃ ks, D.keys ds = some ks ∧ NestedKey.depthAll ks ≤ D.deps ds
  | [], _ => ⟨[], rfl, Nat.le_refl _⟩
  | d :: ds, h => by
    simp only [D.nbs, Bool.and_eq_true] at h
    obtain ⟨k, e1, l1⟩ := key_some d h.1
    obtain ⟨ks, e2, l2⟩ := keys_some ds h.2
    refine ⟨k :: ks, by rw [D.keys, e1, e2], ?_⟩
    simp only [NestedKey.depthAll, D.deps, D.pys, PyData.depthAll]
    simp only [D.deps] at l2
    have l1 : k.depth ≤ d.py.depth := l1
    omega
end
mutual
theorem key_inj : ∀ (d e : D), d.nb = true → e.nb = true → d.key = e.key → d = e
  | .non, e, _, h, q => by
    cases e <;> simp [D.key, D.nb] at h q ⊢
    rename_i ys
    cases hk : D.keys ys <;> rw [hk] at q <;> simp at q
  | .int i, e, _, h, q => by
    cases e <;> simp [D.key, D.nb] at h q ⊢
    · exact q
    · rename_i ys
      cases hk : D.keys ys <;> rw [hk] at q <;> simp at q
  | .str x, e, _, h, q => by
    cases e <;> simp [D.key, D.nb] at h q ⊢
    · exact q
    · rename_i ys
      cases hk : D.keys ys <;> rw [hk] at q <;> simp at q
  | .tup xs, e, g, h, q => by
    have gx : D.nbs xs = true := by simpa only [D.nb] using g
    obtain ⟨ks, e1, _⟩ := keys_some xs gx
    cases e <;> simp [D.key, D.nb] at h q ⊢
    rename_i ys
    obtain ⟨js, e2, _⟩ := keys_some ys h
    rw [e1, e2] at q
    simp at q
    exact keys_inj xs ys gx h (by rw [e1, e2, q])
  | .bl _, _, g, _, _ => by simp [D.nb] at g
  | .fl _, _, g, _, _ => by simp [D.nb] at g
  | .ref _, _, g, _, _ => by simp [D.nb] at g
  | .ty _, _, g, _, _ => by simp [D.nb] at g
theorem keys_inj : ∀ (ds es : List D), D.nbs ds = true → D.nbs es = true → D.keys ds = D.keys es → ds = es
  | [], [], _, _, _ => rfl
  | [], e :: es, _, h2, q => by
    obtain ⟨k, e1, _⟩ := keys_some (e :: es) h2
    rw [e1] at q
    simp only [D.keys] at q
    simp only [D.keys] at e1
    cases q
    split at e1 <;> simp at e1
  | d :: ds, [], h1, _, q => by
    obtain ⟨k, e1, _⟩ := keys_some (d :: ds) h1
    rw [e1] at q
    simp only [D.keys] at q e1
    cases q
    split at e1 <;> simp at e1
  | d :: ds, e :: es, h1, h2, q => by
    simp only [D.nbs, Bool.and_eq_true] at h1 h2
    obtain ⟨k1, a1, _⟩ := key_some d h1.1
    obtain ⟨k2, a2, _⟩ := keys_some ds h1.2
    obtain ⟨k3, a3, _⟩ := key_some e h2.1
    obtain ⟨k4, a4, _⟩ := keys_some es h2.2
    simp only [D.keys, a1, a2, a3, a4, Option.some.injEq, List.cons.injEq] at q
    rw [key_inj d e h1.1 h2.1 (by rw [a1, a3, q.1]), keys_inj ds es h1.2 h2.2 (by rw [a2, a4, q.2])]
end
theorem key_eqD {d e : D} (h1 : d.nb = true) (h2 : e.nb = true) : decide (d.key = e.key) = eqD d e := by
  rw [Bool.eq_iff_iff, decide_eq_true_iff, eqD_iff d e h1 h2]
  exact ⟨key_inj d e h1 h2, fun h => by rw [h]⟩
/-- the edges as a dict's keys -/
def kvE (es : List D) : MO := .dic (es.map fun d => (d, .bl true))
theorem put_edge {es : List D} {e : D} (h : D.nbs es = true) (he : e.nb = true) : dputD (es.map fun d => (d, D.bl true)) e (.bl true) = (addX es e).map fun d => (d, .bl true) := by
  have nm : ∀ x ∈ es, x.nb = true := fun x hx => by
    induction es with
    | nil => cases hx
    | cons y ys ih =>
      simp only [D.nbs, Bool.and_eq_true] at h
      rcases List.mem_cons.mp hx with rfl | hx
      · exact h.1
      · exact ih h.2 hx
  have any : (es.map fun d => (d, D.bl true)).any (fun p => decide (p.1.key = e.key)) = es.any fun x => eqD x e := by
    rw [List.any_map]
    refine Bool.eq_iff_iff.mpr ?_
    rw [List.any_eq_true, List.any_eq_true]
    constructor
    · rintro ⟨x, hx, q⟩
      exact ⟨x, hx, by rw [← key_eqD (nm x hx) he]; exact q⟩
    · rintro ⟨x, hx, q⟩
      exact ⟨x, hx, by rw [← key_eqD (nm x hx) he] at q; exact q⟩
  unfold dputD addX
  rw [any]
  split
  · rw [List.map_map]
    refine List.map_congr_left fun x _ => ?_
    simp only [Function.comp]
    split <;> rfl
  · rw [List.map_append]; rfl
theorem edge_ok {es : List D} {e : Edge} (h : ∀ x ∈ es, ∃ e : Edge, x = edgeD e) : keyOk (es.map fun d => (d, D.bl true)) (edgeD e) := by
  refine .inr ⟨rfl, fun p hp => ?_, ?_⟩
  · obtain ⟨x, hx, rfl⟩ := List.mem_map.mp hp
    obtain ⟨f, rfl⟩ := h x hx
    rfl
  · obtain ⟨k, e1, l⟩ := key_some (edgeD e) (edge_nb e)
    exact ⟨k, e1, Nat.le_trans l (Nat.le_trans (edge_dep e) (by decide))⟩
def encE (ord : List PR) (k : Nat) : D := .tup [.int ((k : Nat) : Int), ipD (ord[k]?.getD (0, 0))]
theorem enum_ord (ord : List PR) : enumD 0 (ord.map ipD) = (List.range ord.length).map (encE ord) := by
  refine List.ext_getElem? fun i => ?_
  rw [enumD_get, List.getElem?_map, List.getElem?_map]
  by_cases h : i < ord.length
  · rw [List.getElem?_range h, List.getElem?_eq_getElem h]
    simp only [Option.map_some, encE, Nat.zero_add, List.getElem?_eq_getElem h, Option.getD_some]
  · rw [List.getElem?_eq_none (by omega), List.getElem?_eq_none (by rw [List.length_range]; omega)]
    rfl
theorem eds_sort {es : List D} (he : ∀ x ∈ es, ∃ e : Edge, x = edgeD e) : PySem.W.AllAlike (es.map D.py) ∧ PySem.W.Sortable (es.map D.py) ∧ (∀ x ∈ es, x.pl ∧ x.dep ≤ 60) := by
  obtain ⟨xs, e, h1, h2, h3, h4⟩ := sorted_eds (a := 0) (M := mupd (fun _ => none) 0 (.lst es)) (Q := fun xs _ => xs = es) mupd_same he fun _ _ => rfl
  rw [mupd_same] at e
  cases e
  exact ⟨h1, h2, h3⟩
theorem steps_at {one two : Plan} {p : PR} {M : Mem} {Q : D → Mem → Prop} (ok : okS one two) (q : ∀ a, M a = none → Q (.ref a) (mupd M a (.lst ((JS one two p).map stD)))) : r_joint_steps.f [planD one, planD two, ipD p] M Q := ⟨((one, two), p), ⟨rfl, ok⟩, fun o e a ha => by rw [e]; exact q a ha⟩
/-- a def that raises, told by its own promise -/
theorem law_joined_plan : FnLawX 14 2 w_joined_plan r_joined_plan := fun P w K H ds M Q E rm ⟨⟨one, two⟩, ⟨e, ok⟩, q1, q2⟩ => by
  subst e
  refine ⟨rfl, M, rm, fun _ z => z, ?_⟩
  have sz := sizeLine_eq
  dsimp only at ok q1 q2
  have mkR : ∀ d M', joinedF one two = some d → Sub M M' → Fin P w K Q d M' := fun d M' e s => ⟨M, Vw.sub rm.cons s, q1 d e⟩
  obtain ⟨Z, hZ⟩ : ∃ Z : XD, Z = fun cn fs M' => ∃ M'', Vw P w K M' M'' ∧ E cn fs M'' := ⟨_, rfl⟩
  have mkZ : ∀ M', joinedF one two = none → Sub M M' → Z "TooMany" [] M' := fun M' e s => by rw [hZ]; exact ⟨M, Vw.sub rm.cons s, q2 e⟩
  rw [← hZ]
  clear q1 q2 hZ
  unfold w_joined_plan enD
  generalize Fin P w K Q = R at *
  refine seq_cut (fun ρ M1 => ρ = [some (planD one), some (planD two), none, none, none, none, none, none, none, none, none, none, none, none] ∧ M = M1 ∧ ¬ one.c + two.c > 2) (fun I mk => ?_) ?_
  · rw [plan_def one, plan_def two]
    walk_at "mp"
    exact ⟨fun h => mkZ _ (by unfold joinedF; rw [if_pos h]) Sub.refl, fun h => mk _ _ ⟨rfl, rfl, by omega⟩⟩
  rintro _ _ ⟨rfl, rfl, hc⟩
  have okk := c_two ok hc
  refine seq_cut (fun ρ M1 => ∃ o, ρ = [some (planD one), some (planD two), some (.ref o), none, none, none, none, none, none, none, none, none, none, none] ∧ M o = none ∧ M1 o = some (.lst [ipD (0, 0)]) ∧ Sub M M1) (fun I mk => ?_) ?_
  · walk_at "mp"
    exact ⟨by omega, by omega, fun o ho => mk _ _ ⟨o, rfl, ho, mupd_same, Sub.new ho⟩⟩
  rintro _ M1 ⟨o, rfl, ho, ho1, s1⟩
  refine seq_cut (fun ρ M2 => ∃ x, ρ = [some (planD one), some (planD two), some (.ref o), some (.ref x), none, none, none, none, none, none, none, none, none, none] ∧ Kn kvE M o x (bfs one two 0) M2) (fun I mk => ?_) ?_
  · walk_at "mp"
    exact fun x hx => mk _ _ ⟨x, rfl, Sub.new hx _ _ ho1, mupd_same, s1.trans (Sub.new hx), ho, s1.none hx, Sub.ne ho1 hx⟩
  rintro _ M2 ⟨x, rfl, k2⟩
  refine seq_cut (fun ρ M3 => ρ = [some (planD one), some (planD two), some (.ref o), some (.ref x), some (.int 0), none, none, none, none, none, none, none, none, none] ∧ Kn kvE M o x (bfs one two 0) M3) (fun I mk => ?_) ?_
  · walk_at "mp"
    exact mk _ _ ⟨rfl, k2⟩
  rintro _ M3 ⟨rfl, k3⟩
  have jF : joinedF one two = if (bfs one two 16).1.length > 4 ∨ (bfs one two 16).2.length > 8 then none else some (joinedD one two (bfs one two 16)) := by unfold joinedF; rw [if_neg hc]
  have many : ∀ n, n ≤ 16 → (bfs one two n).1.length > 4 → joinedF one two = none := fun n hn h => by
    have := bfs_ge one two n (16 - n)
    rw [show n + (16 - n) = 16 by omega] at this
    rw [jF, if_pos (.inl (by omega))]
  refine seq_cut (fun ρ M4 => ∃ x4 x5 x6 x7 x8, ρ = [some (planD one), some (planD two), some (.ref o), some (.ref x), x4, x5, x6, x7, x8, none, none, none, none, none] ∧ Kn kvE M o x (bfs one two 16) M4 ∧ (bfs one two 16).1.length ≤ 4) (fun I mk => ?_) ?_
  · refine while_of (fun m ρ M4 => ∃ (i : Nat) (x5 x6 x7 x8 : Option D), ρ = [some (planD one), some (planD two), some (.ref o), some (.ref x), some (.int ((i : Nat) : Int)), x5, x6, x7, x8, none, none, none, none, none] ∧ Kn kvE M o x (bfs one two i) M4 ∧ (bfs one two i).1.length ≤ 4 ∧ i ≤ 4 ∧ m = 4 - i) ⟨4, 0, _, _, _, _, rfl, k3, Nat.le_of_ble_eq_true rfl, by omega, rfl⟩ fun J mkJ m ρ M4 h => ?_
    obtain ⟨i, x5, x6, x7, x8, rfl, k4, l4, i4, rfl⟩ := h
    have bo := (bfs_ok okk i).le (m := 72 * 4) (by omega)
    walk_at "mp"
    rw [len_lst k4.ko, List.length_map]
    refine ⟨fun h1 => ?_, fun h1 => mk _ _ ⟨_, _, _, _, _, rfl, ?_⟩⟩
    · have h1 : i < (bfs one two i).1.length := by omega
      have hp := List.getElem?_eq_getElem h1
      generalize hpp : (bfs one two i).1[i] = p at hp
      have okp := bo.pr p (List.mem_of_getElem? hp)
      have jl := JS_len okk p
      have te : bfs one two (i + 1) = (JS one two p).foldl (addS i) (bfs one two i) := by show turnF one two i (bfs one two i) = _; rw [turn_at hp]
      rw [ix_lst k4.ko]
      refine ⟨ipD p, atI_nat (by rw [List.getElem?_map, hp]; rfl), steps_at okk fun q hq => ?_⟩
      rw [iseq_lst mupd_same]
      refine loop_enc stD (JS one two p) (fun pre ρ M5 => ∃ x5 x6 x7 x8, ρ = [some (planD one), some (planD two), some (.ref o), some (.ref x), some (.int ((i : Nat) : Int)), x5, x6, x7, x8, none, none, none, none, none] ∧ Kn kvE M o x (pre.foldl (addS i) (bfs one two i)) M5 ∧ (pre.foldl (addS i) (bfs one two i)).1.length ≤ 4 ∧ M5 q = some (.lst ((JS one two p).map stD)) ∧ q ≠ o ∧ q ≠ x) (fun J2 mk2 pre s post ρ M5 eb h => ?_) (fun ρ M5 h => ?_) _ _ ⟨_, _, _, _, rfl, k4.new hq, l4, mupd_same, (Sub.ne k4.ko hq).symm, (Sub.ne k4.kx hq).symm⟩
      · obtain ⟨x5, x6, x7, x8, rfl, k5, l5, q5, qo, qx⟩ := h
        refine ⟨q5, ?_⟩
        have hsn : s ∈ JS one two p := by rw [eb]; simp
        have hpl : pre.length ≤ 72 := by have := congrArg List.length eb; rw [List.length_append, List.length_cons] at this; omega
        have bo2 := (bo.fold i fun s hs => JS_pr okk okp (by rw [eb]; exact List.mem_append_left _ hs)).le (m := 2000) (by omega)
        have fs : ∀ M6, Kn kvE M o x (addS i (pre.foldl (addS i) (bfs one two i)) s) M6 → (addS i (pre.foldl (addS i) (bfs one two i)) s).1.length ≤ 4 → M6 q = some (.lst ((JS one two p).map stD)) → J2 (pre ++ [s]) [some (planD one), some (planD two), some (.ref o), some (.ref x), some (.int ((i : Nat) : Int)), some (.int s.d), some (barsD s.bars), some (isD s.rs), some (ipD s.p), none, none, none, none, none] M6 := fun M6 k l q' => mk2 _ _ _ ⟨_, _, _, _, rfl, by rw [List.foldl_append]; exact k, by rw [List.foldl_append]; exact l, q', qo, qx⟩
        have toomany : (addS i (pre.foldl (addS i) (bfs one two i)) s).1.length > 4 → joinedF one two = none := fun h => by
          refine many (i + 1) (by omega) ?_
          rw [te, eb, List.foldl_append, List.foldl_cons]
          exact Nat.lt_of_lt_of_le h (fold_ge i post _)
        generalize pre.foldl (addS i) (bfs one two i) = st at *
        refine ⟨_, rfl, rfl, _, _, rfl, _, _, rfl, _, _, rfl, _, _, rfl, rfl, ?_⟩
        simp only [e_gN, List.set_cons_succ, List.set_cons_zero]
        have bo3 := bo2.add i (JS_pr okk okp hsn)
        refine seq_cut (fun ρ M6 => ρ = [some (planD one), some (planD two), some (.ref o), some (.ref x), some (.int ((i : Nat) : Int)), some (.int s.d), some (barsD s.bars), some (isD s.rs), some (ipD s.p), none, none, none, none, none] ∧ Kn kvE M o x (addO st.1 s.p, st.2) M6 ∧ (addO st.1 s.p).length ≤ 4 ∧ M6 q = some (.lst ((JS one two p).map stD))) (fun I' mk' => ?_) ?_
        · walk_at "mp"
          show (rInn true).f (ipD s.p) (.ref o) M5 _
          rw [in_lst k5.ko, ords_any, Bool.true_xor]
          refine ⟨nbs_pls _ (nbs_map ipD ipD_nb _), rfl, Nat.le_trans (Nat.min_le_right _ _) (by show 1 ≤ 60; decide), _, rfl, fun h => ?_, fun h => mk' _ _ ⟨rfl, ?_, ?_, q5⟩⟩
          · have hn : s.p ∉ st.1 := by simpa using h
            have el : addO st.1 s.p = st.1 ++ [s.p] := by unfold addO; rw [if_neg hn]
            have k6 : Kn kvE M o x (addO st.1 s.p, st.2) (mupd M5 o (.lst (st.1.map ipD ++ [ipD s.p]))) := k5.ord _ (by rw [el, List.map_append]; rfl)
            rw [ty_lst k5.ko]
            refine ⟨trivial, _, k5.ko, by rw [List.length_map]; omega, ?_⟩
            rw [len_lst k6.ko, List.length_map]
            dsimp only
            refine ⟨fun h2 => mkZ _ (toomany (by show (addO st.1 s.p).length > 4; omega)) k6.s, fun h2 => mk' _ _ ⟨rfl, k6, by omega, by rw [mupd_ne qo]; exact q5⟩⟩
          · have hn : s.p ∈ st.1 := by simpa using h
            have el : addO st.1 s.p = st.1 := by unfold addO; rw [if_pos hn]
            rw [el]; exact k5
          · have hn : s.p ∈ st.1 := by simpa using h
            have el : addO st.1 s.p = st.1 := by unfold addO; rw [if_pos hn]
            rw [el]; exact l5
        rintro _ M6 ⟨rfl, k6, l6, q6⟩
        walk_at "mp"
        rw [ty_lst k6.ko]
        refine ⟨trivial, _, k6.ko, nbs_pls _ (nbs_map ipD ipD_nb _), rfl, Nat.le_trans (Nat.min_le_right _ _) (by show 1 ≤ 60; decide), _, find_ip s.p _ (addO_mem _ _), by omega, .inr ⟨_, k6.kx, edge_ok (e := ⟨((i : Nat) : Int), s.d, s.bars, s.rs, ix (addO st.1 s.p) s.p⟩) bo2.ed, by rw [List.length_map]; have := bo2.l2; show st.2.length < sizeLine; omega, fs _ (k6.edg (addX st.2 (edAt i (addO st.1 s.p) s)) ?_) l6 (by rw [mupd_ne qx]; exact q6)⟩⟩
        exact congrArg MO.dic (put_edge (e := edAt i (addO st.1 s.p) s) (eds_nb bo2.ed) (edge_nb _))
      · obtain ⟨x5, x6, x7, x8, rfl, k5, l5, q5, qo, qx⟩ := h
        refine ⟨q5, ?_⟩
        walk_at "mp"
        rw [← te] at k5 l5
        have l3 : i + 1 ≤ 4 := by omega
        refine mkJ (4 - i) (4 - (i + 1)) _ _ (by omega) ⟨i + 1, _, _, _, _, by rw [Int.natCast_add]; rfl, k5, l5, l3, rfl⟩
    · have h1 : (bfs one two i).1.length ≤ i := by omega
      have e := bfs_stop h1 (16 - i)
      rw [show i + (16 - i) = 16 by omega] at e
      rw [e]
      exact ⟨k4, l4⟩
  rintro _ M4 ⟨x4, x5, x6, x7, x8, rfl, k4, l4⟩
  have bo := bfs_ok okk 16
  generalize bfs one two 16 = st at *
  refine seq_cut (fun ρ M5 => ρ = [some (planD one), some (planD two), some (.ref o), some (.ref x), x4, x5, x6, x7, x8, none, none, none, none, none] ∧ M4 = M5 ∧ joinedF one two = some (joinedD one two st)) (fun I mk => ?_) ?_
  · walk_at "mp"
    refine .inr ⟨_, k4.kx, ?_⟩
    rw [List.length_map]
    refine ⟨fun h => mkZ _ (by rw [jF, if_pos (.inr (by omega))]) k4.s, fun h => mk _ _ ⟨rfl, rfl, by rw [jF, if_neg (by omega)]⟩⟩
  rintro _ _ ⟨rfl, rfl, jF⟩
  refine seq_cut (fun ρ M5 => ∃ b, ρ = [some (planD one), some (planD two), some (.ref o), some (.ref x), x4, x5, x6, x7, x8, some (.ref b), none, none, none, none] ∧ Kn kvE M o x st M5 ∧ M5 b = some (.lst (st.1.map fun p => barsD (jb one two p)))) (fun I mk => ?_) ?_
  · walk_at "mp"
    rw [iseq_lst k4.ko]
    refine lc_enc ipD (fun p => barsD (jb one two p)) (fun M' => Kn kvE M o x st M') st.1 (fun J mkJ p hpn M' k5 => ?_) (by omega) (fun M' k5 => ?_) _ k4
    · refine ⟨k5.ko, ?_⟩
      have okp := bo.pr p hpn
      obtain ⟨b1, c1⟩ := bounds_at okk.h1 okp.1.1 okp.1.2
      obtain ⟨b2, c2⟩ := bounds_at okk.h2 okp.2.1 okp.2.2
      rw [plan_def one, plan_def two, ipD]
      walk_at "mp"
      refine ⟨rfl, _, atI_pos okp.1.1 b1, _, atI_pos okp.2.1 b2, ?_⟩
      rw [okk.c1]
      refine shifted_at (by omega) ?_
      have l2 : (shB 1 (bAt two p.2)).length ≤ 3 := by unfold shB; rw [List.length_map]; exact c2
      rw [show barsD (bAt one p.1) = D.tup ((bAt one p.1).map barD) from rfl, show barsD (shB 1 (bAt two p.2)) = D.tup ((shB 1 (bAt two p.2)).map barD) from rfl]
      walk_at "mp"
      rw [← List.map_append, List.length_map, List.length_map]
      refine ⟨by omega, sorted_bars fun d hd => ?_⟩
      rw [items_lst mupd_same]
      exact ⟨rfl, mkJ _ (k5.new hd)⟩
    · exact ⟨k5.ko, fun b hb => mk _ _ ⟨b, rfl, k5.new hb, mupd_same⟩⟩
  rintro _ M5 ⟨b, rfl, k5, b5⟩
  refine seq_cut (fun ρ M6 => ∃ c, ρ = [some (planD one), some (planD two), some (.ref o), some (.ref x), x4, x5, x6, x7, x8, some (.ref b), some (.ref c), none, none, none] ∧ Kn kvE M o x st M6 ∧ M6 b = some (.lst (st.1.map fun p => barsD (jb one two p))) ∧ M6 c = some (.lst ((jends one two st.1).map D.int))) (fun I mk => ?_) ?_
  · walk_at "mp"
    refine ⟨_, k5.ko, ?_⟩
    rw [enum_ord]
    refine lc_encf (encE st.1) (fun k => match st.1[k]? with
      | some p => decide (p.1 ∈ one.ends) && decide (p.2 ∈ two.ends)
      | none => false) (riD 0) (fun M' => M' = M5) _ (fun J' mkJ' k hk M' e => ?_) (by rw [List.length_range]; omega) (fun M' e => ?_) _ rfl
    · subst e
      have hk := List.mem_range.mp hk
      have hp := List.getElem?_eq_getElem hk
      generalize st.1[k] = p at hp
      refine ⟨k5.ko, ?_⟩
      rw [encE, plan_def one, plan_def two, hp, Option.getD_some, ipD]
      walk_at "mp"
      rw [any_S, any_S]
      have cl : D.pls (one.ends.map D.int) ∧ D.pls (two.ends.map D.int) := ⟨nbs_pls _ (nbs_map D.int (fun _ => rfl) _), nbs_pls _ (nbs_map D.int (fun _ => rfl) _)⟩
      have ek : D.int ((k : Nat) : Int) = riD 0 k := by rw [riD, Int.zero_add]
      refine ⟨rfl, rfl, cl.1, rfl, Nat.le_trans (Nat.min_le_right _ _) (Nat.zero_le _), fun h1 => ⟨cl.2, rfl, Nat.le_trans (Nat.min_le_right _ _) (Nat.zero_le _), by rw [h1]; rfl, fun _ => ⟨ek, mkJ' _ rfl⟩, fun _ => mkJ' _ rfl⟩, fun h1 => ⟨by rw [h1]; rfl, mkJ' _ rfl⟩⟩
    · subst e
      refine ⟨k5.ko, fun c hc => mk _ _ ⟨c, rfl, k5.new hc, Sub.new hc _ _ b5, by rw [mupd_same]; exact congrArg (fun l => some (MO.lst l)) (jends_eq one two st.1)⟩⟩
  rintro _ M6 ⟨c, rfl, k6, b6, c6⟩
  rw [plan_def one, plan_def two]
  walk_at "mp"
  rw [items_lst b6, okk.c1, okk.c]
  refine ⟨_, k6.kx, .inl fun p hp => ?_, ?_⟩
  · obtain ⟨y, hy, rfl⟩ := List.mem_map.mp hp
    obtain ⟨e, rfl⟩ := bo.ed y hy
    rfl
  have e1 : (st.2.map fun d => (d, D.bl true)).map (fun x => x.fst) = st.2 := by
    rw [List.map_map]
    exact List.map_id st.2
  obtain ⟨z1, z2, z3⟩ := eds_sort bo.ed
  refine Eq.subst (motive := fun L : List D => PySem.W.AllAlike (L.map D.py) ∧ PySem.W.Sortable (L.map D.py) ∧ (∀ x ∈ L, x.pl ∧ x.dep ≤ 60) ∧ ∀ p, M6 p = none → itemsF (.ref p) (mupd M6 p (.lst (sortD L))) fun xs => itemsF (.ref c) (mupd M6 p (.lst (sortD L))) fun xs1 => 4 ≤ sizeLine ∧ R (.tup [.int (1 + 1), .tup (st.1.map fun p => barsD (jb one two p)), .tup xs, .tup xs1]) (mupd M6 p (.lst (sortD L)))) e1.symm ?_
  refine ⟨z1, z2, z3, fun d hd => ?_⟩
  rw [items_lst mupd_same, items_lst (Sub.new hd _ _ c6)]
  exact ⟨by omega, mkR _ _ jF (k6.s.trans (Sub.new hd))⟩
end K31

namespace K31
open PySem PySem.Spec PyProof.Rows L2 MP
open PL (Bar Edge Plan barD barsD edgeD planD boundsD edgesD okP drP okB okBs okE okNs sg sgs isD deps_le edge_nb edge_dep bars_pl is_nb bars_dep is_dep edge_alike alike_bars alike_is)

local macro_rules | `(tactic| walk_at "mp1") => `(tactic| simp only [e_iPd, e_sRaise, e_sTryN, e_wFld, e_gFld, e_wMe, e_wNew, e_wVar, e_wC, e_wOp, e_wUn, e_aNil, e_aCons, e_wCB, e_wCK, e_wTup, e_wLst, e_wtB, e_wtV, e_wtNot, e_wtAnd, e_wtOr, e_wAnd, e_wOr, e_wNot, e_wIf, e_wChain, e_wSl, e_oNone, e_oSome, e_wBM, e_wLc, e_wLc2, e_wDc, e_wDn, e_wDn2, e_nRng1, e_iRg, e_wRev, e_revF_tup, e_wtYes, e_sNil, e_sSeq, e_sBreak, e_sCont, e_sDrop, e_sRet, e_sRetN, e_sIf, e_sAsg, e_sPar, e_sAug, e_sFor, e_gN, e_gsNil, e_gsCons, e_gT, e_gSubD, e_iSeq, e_iR1, e_iR2, e_iEnumL, e_iEnumT, e_iZipW, e_mAppend, e_mExtend, e_mIndex, e_nLen, e_nTuple, e_nList, e_nBls, e_rIx, e_rIadd_int, e_nSorted, e_nSortedK, e_nSortedS, e_wDNew, e_wDisp2, e_iKy, e_iPr, e_nBest, e_kBestD, e_rAdd_int, e_rAdd_tup, e_rAdd_str, e_rAdd_ref, e_rSub_int, e_rMulA_int, e_rMulA_tup, e_rMulA_ref, e_rFdiv_int, e_rMod_int, e_rPow_int, e_rLe_int, e_rGt_int, e_rGe_int, e_rLt_int, e_rLt_tup, e_rEqn_int, e_rEqn_str, e_rEqn_bl, e_rEqn_tup, e_rEqn_ref, e_rIsn_non, e_rIsn_bl, e_rInn_tup, e_rNeg_int, e_ix_tup, e_ix_fl, len_tup, len_fl, items_tup, items_fl, iseq_tup, iseq_fl, e_nInt_int, e_nInt_bl, e_nInt1_int, e_nInt2_int, e_r2F, e_tru_bl, e_tru_int, e_tru_tup, tn_int, tn_bl, tn_str, tn_non, tn_tup, tn_fl, kb_int_int, kb_int_bool, kb_int_str, kb_int_tuple, kb_int_list, kb_bool_int, kb_bool_bool, kb_bool_str, kb_bool_tuple, kb_bool_list, kb_str_int, kb_str_bool, kb_str_str, kb_str_tuple, kb_str_list, kb_NoneType_int, kb_NoneType_bool, kb_NoneType_str, kb_NoneType_tuple, kb_NoneType_list, kb_tuple_int, kb_tuple_bool, kb_tuple_str, kb_tuple_tuple, kb_tuple_list, kb_list_int, kb_list_bool, kb_list_str, kb_list_tuple, kb_list_list, s_at0, s_at1, s_at2, s_at3, s_at4, s_ex2, startD, List.map_cons, List.map_nil, List.length_cons, List.length_nil, List.replicate_succ, List.replicate_zero, List.cons_append, List.nil_append, List.append_nil, Nat.sub_self, Nat.reduceAdd, Nat.reduceSub, List.getElem?_cons_zero, List.getElem?_cons_succ, List.getElem?_nil, Option.some.injEq, reduceCtorEq, false_and, and_false, exists_false, exists_eq_left', exists_and_left, exists_and_right, exists_eq_right, D.int.injEq, D.bl.injEq, D.str.injEq, D.tup.injEq, D.ref.injEq, D.ty.injEq, List.cons.injEq, and_self, true_and, and_true, exists_eq_left, List.set_cons_zero, List.set_cons_succ, wipeD, forall_const, if_true, false_implies, true_implies, implies_true, Bool.false_eq_true, Bool.true_eq_false, eq_self_iff_true, xor_f, xor_t, Bool.not_true, Bool.not_false, decide_eq_true_eq, decide_eq_false_iff_not])
local macro_rules | `(tactic| walk_at "mp") => `(tactic| (try dsimp only); (try walk_at "mp1"))
local macro_rules | `(tactic| walk_at "cm") => `(tactic| first | exact cmul_r ⟨by decide, by decide⟩ | exact cmul_l ⟨by decide, by decide⟩ | exact cmul_r ⟨by omega, by omega⟩ | exact cmul_l ⟨by omega, by omega⟩)
theorem joined_at {one two : Plan} {M : Mem} {Q : D → Mem → Prop} {E : XD} (ok : okJ one two) (q1 : ∀ d, joinedF one two = some d → Q d M) (q2 : joinedF one two = none → E "TooMany" [] M) : r_joined_plan.f [planD one, planD two] M Q E := ⟨(one, two), ⟨rfl, ok⟩, q1, q2⟩
theorem law__law_told : FnLaw 3 2 w__law_told r__law_told := law_of fun ⟨one, two⟩ ds M cn ⟨e, ok⟩ => by
  subst e
  refine ⟨rfl, ?_⟩
  intro R mkR
  dsimp only at ok mkR
  unfold w__law_told rtE
  walk_at "mp"
  refine ⟨by decide, joined_at ok (fun d e => mkR _ _ (by rw [e]; rfl) Sub.refl) fun e => ⟨rfl, rfl, mkR _ _ (by rw [e]; rfl) Sub.refl⟩⟩
/-! ### numbers of places -/
def encN (ns : List Nat) (k : Nat) : D := .tup [.int ((k : Nat) : Int), .int ((ns[k]?.getD 0 : Nat) : Int)]
theorem enum_ns (ns : List Nat) : enumD 0 (ns.map fun k => D.int ((k : Nat) : Int)) = (List.range ns.length).map (encN ns) := by
  refine List.ext_getElem? fun i => ?_
  rw [enumD_get, List.getElem?_map, List.getElem?_map]
  by_cases h : i < ns.length
  · rw [List.getElem?_range h, List.getElem?_eq_getElem h]
    simp only [Option.map_some, encN, Nat.zero_add, List.getElem?_eq_getElem h, Option.getD_some]
  · rw [List.getElem?_eq_none (by omega), List.getElem?_eq_none (by rw [List.length_range]; omega)]
    rfl
theorem range_at {n x : Nat} {pre post : List Nat} (e : List.range n = pre ++ x :: post) : x = pre.length ∧ pre.length < n := by
  have h1 : (List.range n)[pre.length]? = some x := by rw [e]; simp
  obtain ⟨h2, h3⟩ := List.getElem?_eq_some_iff.mp h1
  rw [List.length_range] at h2
  rw [List.getElem_range] at h3
  exact ⟨h3.symm, h2⟩
theorem ns_at {ns : List Nat} {s : Int} (h0 : 0 ≤ s) (h1 : s < ns.length) : atI (ns.map fun k => D.int ((k : Nat) : Int)) s = some (.int (nAt ns s)) := by
  refine atI_pos h0 ?_
  have hs : s.toNat < ns.length := by omega
  unfold nAt
  rw [List.getElem?_map, List.getElem?_eq_getElem hs]; rfl
/-- the rows that are laid out by the first i names -/
def laid (p : Plan) (ns : List Nat) (i : Nat) (L : List (List Bar)) : Prop := L.length = p.bounds.length ∧ ∀ j, j < i → ∀ k, ns[j]? = some k → L[k]? = p.bounds[j]?
theorem laid_next {p : Plan} {ns : List Nat} {i k : Nat} {L : List (List Bar)} {b : List Bar} (h : laid p ns i L) (nd : ns.Nodup) (hk : ns[i]? = some k) (hkn : k < p.bounds.length) (hb : p.bounds[i]? = some b) : laid p ns (i + 1) (L.set k b) := by
  refine ⟨by rw [List.length_set]; exact h.1, fun j hj k' hk' => ?_⟩
  by_cases e : j = i
  · subst e
    rw [hk] at hk'; cases hk'
    rw [List.getElem?_set_self (by rw [h.1]; exact hkn), hb]
  · rw [List.getElem?_set_ne (fun z => e ?_)]
    · exact h.2 j (by omega) k' hk'
    · subst z
      obtain ⟨h1, h2⟩ := List.getElem?_eq_some_iff.mp hk
      obtain ⟨h3, h4⟩ := List.getElem?_eq_some_iff.mp hk'
      exact (List.getElem_inj nd).mp (h4.trans h2.symm)
theorem laid_all {p : Plan} {ns : List Nat} {L : List (List Bar)} (hp : ns.Perm (List.range p.bounds.length)) (h : laid p ns ns.length L) : L = ordB p ns := by
  unfold ordB
  refine List.ext_getElem? fun k => ?_
  rw [List.getElem?_map]
  by_cases hk : k < p.bounds.length
  · rw [List.getElem?_range hk, Option.map_some]
    have hm : k ∈ ns := hp.mem_iff.mpr (List.mem_range.mpr hk)
    have hi : ns.idxOf k < ns.length := List.idxOf_lt_length_of_mem hm
    have hl : ns.length = p.bounds.length := by rw [hp.length_eq, List.length_range]
    have e := h.2 _ hi k (by rw [List.getElem?_eq_getElem hi]; exact congrArg some (List.getElem_idxOf hi))
    rw [e, List.getElem?_eq_getElem (by omega)]; rfl
  · rw [List.getElem?_eq_none (by rw [h.1]; omega), List.getElem?_eq_none (by rw [List.length_range]; omega)]; rfl
theorem ix_nat {n j : Nat} (h : j < n) : ixN n ((j : Nat) : Int) = some j := by
  unfold ixN
  rw [if_pos (by omega), if_pos (by omega), Int.toNat_natCast]
theorem sorted_ints {a : Addr} {l : List Int} {M : Mem} {Q : List D → Addr → Prop} (h : M a = some (.lst (l.map D.int))) (q : ∀ p, M p = none → Q (l.map D.int) p) :
    ∃ xs, M a = some (.lst xs) ∧ PySem.W.AllAlike (xs.map D.py) ∧ PySem.W.Sortable (xs.map D.py) ∧ (∀ x ∈ xs, x.pl ∧ x.dep ≤ 60) ∧ ∀ p, M p = none → Q xs p := by
  refine ⟨_, h, fun d hd d' hd' => ?_, .inr fun d hd => ?_, fun x hx => ?_, q⟩
  · simp only [List.map_map, List.mem_map] at hd hd'
    obtain ⟨x, _, rfl⟩ := hd
    obtain ⟨y, _, rfl⟩ := hd'
    rfl
  · simp only [List.map_map, List.mem_map] at hd
    obtain ⟨x, _, rfl⟩ := hd
    exact ⟨(fun z => by cases z), fun xs z => by cases z⟩
  · obtain ⟨y, _, rfl⟩ := List.mem_map.mp hx
    exact ⟨rfl, Nat.zero_le _⟩
theorem law_with_order : FnLaw 10 2 w_with_order r_with_order := law_of fun ⟨p, ns⟩ ds M cn ⟨e, hp, hns⟩ => by
  subst e
  refine ⟨rfl, ?_⟩
  intro R mkR
  dsimp only at hp hns mkR
  have sz := sizeLine_eq
  have hl : ns.length = p.bounds.length := by rw [hns.length_eq, List.length_range]
  have hn4 := hp.ok.n
  have he := hp.ok.m
  have hen := hp.ends
  have nd : ns.Nodup := hns.symm.nodup List.nodup_range
  unfold w_with_order rtE
  refine seq_cut (fun ρ M1 => ∃ b, ρ = [some (planD p), some (nsD ns), some (.ref b), none, none, none, none, none, none, none] ∧ M1 b = some (.lst ((List.replicate p.bounds.length []).map barsD)) ∧ M b = none ∧ Sub M M1) (fun I mk => ?_) ?_
  · unfold nsD
    walk_at "mp"
    refine ⟨by omega, by omega, fun a ha => ⟨_, mupd_same, ?_⟩⟩
    rw [List.length_map, List.length_singleton, hl, Int.toNat_natCast]
    refine ⟨by omega, by omega, by omega, fun b hb => mk _ _ ⟨b, rfl, ?_, (Sub.new ha).none hb, (Sub.new ha).trans (Sub.new hb)⟩⟩
    rw [mupd_same, List.map_replicate]
    congr 2
    have rep : ∀ k : Nat, (List.replicate k [D.tup []]).flatten = List.replicate k (barsD []) := fun k => by
      induction k with
      | zero => rfl
      | succ k ih => rw [List.replicate_succ, List.flatten_cons, ih, List.replicate_succ]; rfl
    exact rep _
  rintro _ M1 ⟨b, rfl, hb1, hb0, s1⟩
  refine seq_cut (fun ρ M2 => ∃ x3 x4, ρ = [some (planD p), some (nsD ns), some (.ref b), x3, x4, none, none, none, none, none] ∧ M2 b = some (.lst ((ordB p ns).map barsD)) ∧ Sub M M2) (fun I mk => ?_) ?_
  · unfold nsD
    walk_at "mp"
    rw [enum_ns]
    refine loop_enc (encN ns) (List.range ns.length) (fun pre ρ M2 => ∃ x3 x4 L, ρ = [some (planD p), some (nsD ns), some (.ref b), x3, x4, none, none, none, none, none] ∧ laid p ns pre.length L ∧ M2 b = some (.lst (L.map barsD)) ∧ Sub M M2) (fun J mkJ pre i post ρ M2 eb h => ?_) (fun ρ M2 h => ?_) _ _ ⟨_, _, List.replicate p.bounds.length [], rfl, ⟨by rw [List.length_replicate], fun j hj => absurd hj (Nat.not_lt_zero j)⟩, hb1, s1⟩
    · obtain ⟨x3, x4, L, rfl, la, k2, s2⟩ := h
      obtain ⟨ei, hi⟩ := range_at eb
      refine ⟨trivial, ?_⟩
      have hk := List.getElem?_eq_getElem hi
      generalize ns[pre.length] = k at hk
      have hkn : k < p.bounds.length := List.mem_range.mp (hns.mem_iff.mp (List.mem_of_getElem? hk))
      have hbi := List.getElem?_eq_getElem (show pre.length < p.bounds.length by omega)
      generalize p.bounds[pre.length] = bs at hbi
      have nx := laid_next la nd hk hkn hbi
      rw [encN, ei, hk, Option.getD_some, plan_def]
      walk_at "mp"
      refine ⟨rfl, barsD bs, atI_nat (by rw [List.getElem?_map, hbi]; rfl), .inl ⟨_, k, k, k2, rfl, ?_, mkJ _ _ _ ⟨_, _, L.set k bs, rfl, by rw [List.length_append, List.length_singleton]; exact nx, by rw [mupd_same, List.map_set], s2.upd hb0⟩⟩⟩
      exact ix_nat (by rw [List.length_map, la.1]; exact hkn)
    · obtain ⟨x3, x4, L, rfl, la, k2, s2⟩ := h
      rw [List.length_range] at la
      exact ⟨trivial, mk _ _ ⟨_, _, rfl, by rw [← laid_all hns la]; exact k2, s2⟩⟩
  rintro _ M2 ⟨x3, x4, rfl, k2, s2⟩
  refine seq_cut (fun ρ M3 => ∃ a, ρ = [some (planD p), some (nsD ns), some (.ref b), x3, x4, some (.ref a), none, none, none, none] ∧ M3 b = some (.lst ((ordB p ns).map barsD)) ∧ M3 a = some (.lst (p.edges.map fun e => edgeD (reE ns e))) ∧ Sub M M3) (fun I mk => ?_) ?_
  · unfold nsD
    rw [plan_def]
    walk_at "mp"
    refine lc_enc edgeD (fun e => edgeD (reE ns e)) (fun M' => M' = M2) p.edges (fun J mkJ e hen M' eM => ?_) (by omega) (fun M' eM => ?_) _ rfl
    · subst eM
      have oe := hp.ok.edges e hen
      have os := oe.s
      have og := oe.g
      refine ⟨trivial, ?_⟩
      rw [edge_def]
      walk_at "mp"
      refine ⟨rfl, _, ns_at oe.s.1 (by omega), _, ns_at oe.g.1 (by omega), by omega, rfl, mkJ _ rfl⟩
    · subst eM
      exact ⟨trivial, fun a ha => mk _ _ ⟨a, rfl, Sub.new ha _ _ k2, mupd_same, s2.trans (Sub.new ha)⟩⟩
  rintro _ M3 ⟨a, rfl, k3, a3, s3⟩
  have ed : ∀ x ∈ p.edges.map (fun e => edgeD (reE ns e)), ∃ e : Edge, x = edgeD e := fun x hx => by
    obtain ⟨e, _, rfl⟩ := List.mem_map.mp hx
    exact ⟨_, rfl⟩
  unfold nsD
  rw [plan_def]
  walk_at "mp"
  rw [items_lst k3]
  refine sorted_eds a3 ed fun c hc => ?_
  rw [items_lst mupd_same]
  have s4 := s3.trans (Sub.new hc (o := .lst (sortD (p.edges.map fun e => edgeD (reE ns e)))))
  generalize mupd M3 c (.lst (sortD (p.edges.map fun e => edgeD (reE ns e)))) = M4 at *
  refine lc_enc D.int (fun s => .int (nAt ns s)) (fun M' => M' = M4) p.ends (fun J mkJ s hsn M' eM => ?_) (by omega) (fun M' eM => ?_) _ rfl
  · subst eM
    have oe := hp.ok.ends s hsn
    refine ⟨trivial, ?_⟩
    walk_at "mp"
    exact ⟨_, ns_at oe.1 (by omega), rfl, mkJ _ rfl⟩
  · subst eM
    refine ⟨trivial, fun d hd => ⟨_, rfl, ?_⟩⟩
    have ie : (p.ends.map (nAt ns)).map D.int = p.ends.map fun s => D.int (nAt ns s) := by rw [List.map_map]; rfl
    rw [← ie]
    refine sorted_ints mupd_same fun e he => ?_
    rw [items_lst mupd_same]
    rw [ie] at he ⊢
    exact ⟨by omega, mkR _ _ rfl ((s4.trans (Sub.new hd)).trans (Sub.new he))⟩
theorem erase_map (f : Nat → D) : ∀ (l : List Nat) (i : Nat), (l.map f).eraseIdx i = (l.eraseIdx i).map f
  | [], _ => rfl
  | _ :: _, 0 => rfl
  | x :: xs, i + 1 => by rw [List.map_cons, List.eraseIdx_cons_succ, List.eraseIdx_cons_succ, List.map_cons, erase_map f xs i]
theorem erase_perm {y : Nat} : ∀ (l : List Nat) (i : Nat), l[i]? = some y → (y :: l.eraseIdx i).Perm l
  | x :: xs, 0, h => by
    simp only [List.getElem?_cons_zero, Option.some.injEq] at h
    subst h
    exact List.Perm.refl _
  | x :: xs, i + 1, h => by
    rw [List.getElem?_cons_succ] at h
    rw [List.eraseIdx_cons_succ]
    exact (List.Perm.swap x y _).trans ((erase_perm xs i h).cons x)
theorem law__law_turned : FnLaw 5 2 w__law_turned r__law_turned := law_drof fun n p r c m rest M cn hp hk ⟨p', e, hn⟩ => by
  simp only [List.cons.injEq, D.ref.injEq] at e
  obtain ⟨rfl, rfl⟩ := e
  refine ⟨rfl, ?_⟩
  intro R mkR
  have sz := sizeLine_eq
  unfold w__law_turned rtE
  refine seq_cut (fun ρ M1 => ∃ a, ρ = [some (.ref p), some (.int ((n : Nat) : Int)), some (.ref a), none, none] ∧ M1 a = some (.lst ((List.range n).map fun k => D.int ((k : Nat) : Int))) ∧ M a = none ∧ DrS p r c m M M1) (fun I mk => ?_) ?_
  · walk_at "mp"
    intro q hq
    refine listr_at mupd_same ⟨by decide, by decide, by omega, by omega⟩ (by omega) fun a ha => mk _ _ ⟨a, rfl, ?_, (Sub.new hq).none ha, ?_⟩
    · rw [mupd_same, rng_enc, Int.sub_zero, Int.toNat_natCast]
      congr 2
      exact List.map_congr_left fun k _ => by show D.int (0 + ((k : Nat) : Int)) = _; rw [Int.zero_add]
    · exact ((DrS.refl hp).sub (Sub.new hq)).sub (Sub.new ha)
  rintro _ M1 ⟨a, rfl, ha1, ha0, s1⟩
  have ap : a ≠ p := fun z => by rw [z, hp] at ha0; cases ha0
  have hpn : M p ≠ none := by rw [hp]; exact fun z => by cases z
  refine seq_cut (fun ρ M2 => ρ = [some (.ref p), some (.int ((n : Nat) : Int)), some (.ref a), some (nsD []), none] ∧ M1 = M2) (fun I mk => ?_) ?_
  · walk_at "mp"
    exact ⟨by omega, mk _ _ ⟨rfl, rfl⟩⟩
  rintro _ _ ⟨rfl, rfl⟩
  refine seq_cut (fun ρ M2 => ∃ x4 F, ρ = [some (.ref p), some (.int ((n : Nat) : Int)), some (.ref a), some (nsD F), x4] ∧ F.Perm (List.range n) ∧ DrS p r c (m + 4) M M2) (fun I mk => ?_) ?_
  · walk_at "mp"
    refine ⟨by omega, by omega, ?_⟩
    refine loop_r0 (fun i ρ M2 => ∃ x4 F L, ρ = [some (.ref p), some (.int ((n : Nat) : Int)), some (.ref a), some (nsD F), x4] ∧ (F ++ L).Perm (List.range n) ∧ F.length = i ∧ M2 a = some (.lst (L.map fun k => D.int ((k : Nat) : Int))) ∧ DrS p r c (m + i) M M2) ?step ?fin _ _ ⟨_, [], List.range n, rfl, List.Perm.refl _, rfl, ha1, s1⟩
    case fin =>
      rintro ρ M2 ⟨x4, F, L, rfl, pe, fl, k2, s2⟩
      have hlen := pe.length_eq
      rw [List.length_append, List.length_range] at hlen
      have : L = [] := List.length_eq_zero_iff.mp (by omega)
      subst this
      rw [List.append_nil] at pe
      exact mk _ _ ⟨_, F, rfl, pe, s2.le (by omega)⟩
    case step =>
      rintro J mkJ i ρ M2 hi ⟨x4, F, L, rfl, pe, fl, k2, s2⟩
      have hlen := pe.length_eq
      rw [List.length_append, List.length_range] at hlen
      have hi' : i < n := by omega
      obtain ⟨m2, hm2, p2⟩ := s2.1
      unfold nsD
      walk_at "mp"
      rw [ty_lst k2, len_lst k2, List.length_map]
      refine ⟨trivial, ?_⟩
      rw [draw_at p2]
      refine ⟨by omega, by omega, fun d hd0 hd1 => ?_⟩
      have kl : d.toNat < L.length := by omega
      have hk := List.getElem?_eq_getElem kl
      generalize L[d.toNat] = y at hk
      have pm := erase_perm _ _ hk
      have k3 : (mupd M2 p (.pool r c (m2 + 1))) a = some (.lst (L.map fun k => D.int ((k : Nat) : Int))) := by rw [mupd_ne ap]; exact k2
      refine ⟨a, _, rfl, k3, .inr ⟨d, d.toNat, .int ((y : Nat) : Int), rfl, by omega, by omega, ?_, by rw [List.getElem?_map, hk]; rfl, by omega, ?_, mkJ _ _ _ ⟨_, F ++ [y], L.eraseIdx d.toNat, by rw [nsD, List.map_append]; rfl, ?_, by rw [List.length_append, fl]; rfl, ?_, ?_⟩⟩⟩
      · rw [List.length_map]
        have e : (if d < 0 then d + ((L.length : Nat) : Int) else d) = d := if_neg (by omega)
        unfold seqIndex?
        dsimp only
        rw [e, if_pos (by rw [Bool.and_eq_true, decide_eq_true_eq, decide_eq_true_eq]; omega)]
      · rw [List.length_map]; omega
      · rw [List.append_assoc]
        exact (pm.append_left F).trans pe
      · rw [mupd_same, erase_map]
      · exact ((s2.ask p2).le (by omega)).upd ha0 hpn
  rintro _ M2 ⟨x4, F, rfl, pe, s2⟩
  walk_at "mp"
  exact mkR _ _ ⟨F, rfl, pe⟩ s2
end K31

namespace K31
open PySem PySem.Spec PyProof.Rows L2 MP
open PL (Bar Edge Plan barD barsD edgeD planD boundsD edgesD okP drP okB okBs okE okNs sg sgs isD deps_le edge_nb edge_dep bars_pl is_nb bars_dep is_dep edge_alike alike_bars alike_is)

local macro_rules | `(tactic| walk_at "mp1") => `(tactic| simp only [e_iPd, e_sRaise, e_sTryN, e_wFld, e_gFld, e_wMe, e_wNew, e_wVar, e_wC, e_wOp, e_wUn, e_aNil, e_aCons, e_wCB, e_wCK, e_wTup, e_wLst, e_wtB, e_wtV, e_wtNot, e_wtAnd, e_wtOr, e_wAnd, e_wOr, e_wNot, e_wIf, e_wChain, e_wSl, e_oNone, e_oSome, e_wBM, e_wLc, e_wLc2, e_wDc, e_wDn, e_wDn2, e_nRng1, e_iRg, e_wRev, e_revF_tup, e_wtYes, e_sNil, e_sSeq, e_sBreak, e_sCont, e_sDrop, e_sRet, e_sRetN, e_sIf, e_sAsg, e_sPar, e_sAug, e_sFor, e_gN, e_gsNil, e_gsCons, e_gT, e_gSubD, e_iSeq, e_iR1, e_iR2, e_iEnumL, e_iEnumT, e_iZipW, e_mAppend, e_mExtend, e_mIndex, e_nLen, e_nTuple, e_nList, e_nBls, e_rIx, e_rIadd_int, e_nSorted, e_nSortedK, e_nSortedS, e_wDNew, e_wDisp2, e_iKy, e_iPr, e_nBest, e_kBestD, e_rAdd_int, e_rAdd_tup, e_rAdd_str, e_rAdd_ref, e_rSub_int, e_rMulA_int, e_rMulA_tup, e_rMulA_ref, e_rFdiv_int, e_rMod_int, e_rPow_int, e_rLe_int, e_rGt_int, e_rGe_int, e_rLt_int, e_rLt_tup, e_rEqn_int, e_rEqn_str, e_rEqn_bl, e_rEqn_tup, e_rEqn_ref, e_rIsn_non, e_rIsn_bl, e_rInn_tup, e_rNeg_int, e_ix_tup, e_ix_fl, len_tup, len_fl, items_tup, items_fl, iseq_tup, iseq_fl, e_nInt_int, e_nInt_bl, e_nInt1_int, e_nInt2_int, e_r2F, e_tru_bl, e_tru_int, e_tru_tup, tn_int, tn_bl, tn_str, tn_non, tn_tup, tn_fl, kb_int_int, kb_int_bool, kb_int_str, kb_int_tuple, kb_int_list, kb_bool_int, kb_bool_bool, kb_bool_str, kb_bool_tuple, kb_bool_list, kb_str_int, kb_str_bool, kb_str_str, kb_str_tuple, kb_str_list, kb_NoneType_int, kb_NoneType_bool, kb_NoneType_str, kb_NoneType_tuple, kb_NoneType_list, kb_tuple_int, kb_tuple_bool, kb_tuple_str, kb_tuple_tuple, kb_tuple_list, kb_list_int, kb_list_bool, kb_list_str, kb_list_tuple, kb_list_list, s_at0, s_at1, s_at2, s_at3, s_at4, s_ex2, startD, List.map_cons, List.map_nil, List.length_cons, List.length_nil, List.replicate_succ, List.replicate_zero, List.cons_append, List.nil_append, List.append_nil, Nat.sub_self, Nat.reduceAdd, Nat.reduceSub, List.getElem?_cons_zero, List.getElem?_cons_succ, List.getElem?_nil, Option.some.injEq, reduceCtorEq, false_and, and_false, exists_false, exists_eq_left', exists_and_left, exists_and_right, exists_eq_right, D.int.injEq, D.bl.injEq, D.str.injEq, D.tup.injEq, D.ref.injEq, D.ty.injEq, List.cons.injEq, and_self, true_and, and_true, exists_eq_left, List.set_cons_zero, List.set_cons_succ, wipeD, forall_const, if_true, false_implies, true_implies, implies_true, Bool.false_eq_true, Bool.true_eq_false, eq_self_iff_true, xor_f, xor_t, Bool.not_true, Bool.not_false, decide_eq_true_eq, decide_eq_false_iff_not])
local macro_rules | `(tactic| walk_at "mp") => `(tactic| (try dsimp only); (try walk_at "mp1"))
local macro_rules | `(tactic| walk_at "cm") => `(tactic| first | exact cmul_r ⟨by decide, by decide⟩ | exact cmul_l ⟨by decide, by decide⟩ | exact cmul_r ⟨by omega, by omega⟩ | exact cmul_l ⟨by omega, by omega⟩)
/-! ### data without objects -/
theorem das_of {xs : List D} (h : ∀ x ∈ xs, x.da = true) : D.das xs = true := by
  induction xs with
  | nil => rfl
  | cons x xs ih =>
    simp only [D.das, Bool.and_eq_true]
    exact ⟨h x List.mem_cons_self, ih fun y hy => h y (List.mem_cons_of_mem _ hy)⟩
theorem tup_da {xs : List D} (h : ∀ x ∈ xs, x.da = true) (l : xs.length ≤ 1000000) : (D.tup xs).da = true := by
  simp only [D.da, Bool.and_eq_true, decide_eq_true_eq]
  exact ⟨l, das_of h⟩
theorem bars_da {bs : List Bar} (h : bs.length ≤ 1000000) : (barsD bs).da = true := tup_da (fun x hx => by obtain ⟨b, _, rfl⟩ := List.mem_map.mp hx; rfl) (by rw [List.length_map]; exact h)
theorem isD_da {l : List Int} (h : l.length ≤ 1000000) : (isD l).da = true := tup_da (fun x hx => by obtain ⟨b, _, rfl⟩ := List.mem_map.mp hx; rfl) (by rw [List.length_map]; exact h)
theorem edge_da {e : Edge} (h1 : e.bars.length ≤ 1000000) (h2 : e.rs.length ≤ 1000000) : (edgeD e).da = true := tup_da (fun x hx => by
  simp only [List.mem_cons, List.not_mem_nil, or_false] at hx
  rcases hx with rfl | rfl | rfl | rfl | rfl
  · rfl
  · rfl
  · exact bars_da h1
  · exact isD_da h2
  · rfl) (by show 5 ≤ 1000000; decide)
theorem quad_ok {c : Int} {B E F : List D} (hB : ∀ x ∈ B, x.da = true ∧ x.dep ≤ 2) (hE : ∀ x ∈ E, x.da = true ∧ x.dep ≤ 3) (hF : ∀ x ∈ F, x.da = true ∧ x.dep ≤ 0) (lB : B.length ≤ 1000000) (lE : E.length ≤ 1000000) (lF : F.length ≤ 1000000) :
    (D.tup [.int c, .tup B, .tup E, .tup F]).da = true ∧ (D.tup [.int c, .tup B, .tup E, .tup F]).dep ≤ 6 := by
  refine ⟨tup_da (fun x hx => ?_) (by show 4 ≤ 1000000; decide), ?_⟩
  · simp only [List.mem_cons, List.not_mem_nil, or_false] at hx
    rcases hx with rfl | rfl | rfl | rfl
    · rfl
    · exact tup_da (fun x hx => (hB x hx).1) lB
    · exact tup_da (fun x hx => (hE x hx).1) lE
    · exact tup_da (fun x hx => (hF x hx).1) lF
  · rw [dep_tup]
    have : D.deps [D.int c, .tup B, .tup E, .tup F] ≤ 4 := deps_le fun x hx => by
      simp only [List.mem_cons, List.not_mem_nil, or_false] at hx
      rcases hx with rfl | rfl | rfl | rfl
      · exact Nat.zero_le _
      · rw [dep_tup]; have := deps_le fun x hx => (hB x hx).2; omega
      · rw [dep_tup]; have := deps_le fun x hx => (hE x hx).2; omega
      · rw [dep_tup]; have := deps_le fun x hx => (hF x hx).2; omega
    omega
theorem ints_ok {F : List Int} : ∀ x ∈ F.map D.int, x.da = true ∧ x.dep ≤ 0 := fun x hx => by
  obtain ⟨i, _, rfl⟩ := List.mem_map.mp hx
  exact ⟨rfl, Nat.le_refl _⟩
theorem sortD_mem {es : List D} {x : D} : x ∈ sortD es ↔ x ∈ es := (List.mergeSort_perm es _).mem_iff
theorem sortD_len (es : List D) : (sortD es).length = es.length := (List.mergeSort_perm es _).length_eq
theorem JL_few {one two : Plan} (ok : okS one two) {p : PR} {s : Stp} (hs : s ∈ JL one two p) : s.bars.length ≤ 6 ∧ s.rs.length ≤ 4 := by
  have sh : ∀ (bs : List Bar), (shB 1 bs).length = bs.length := fun bs => by rw [shB, List.length_map]
  have si : ∀ (l : List Int), (shI 1 l).length = l.length := fun l => by rw [shI, List.length_map]
  unfold JL at hs
  rcases List.mem_append.mp hs with hs | hs
  · obtain ⟨l, hl, hs⟩ := List.mem_flatten.mp hs
    obtain ⟨e, he, rfl⟩ := List.mem_map.mp hl
    have fe := ok.h1.few.2 e he
    unfold oneF at hs
    split at hs
    · split at hs
      · unfold bothF at hs
        obtain ⟨f, hf, rfl⟩ := List.mem_map.mp hs
        have ff := ok.h2.few.2 f (List.mem_filter.mp hf).1
        show (srt barD (e.bars ++ shB 1 f.bars)).length ≤ 6 ∧ (e.rs ++ shI 1 f.rs).length ≤ 4
        rw [(srt_perm barD _).length_eq, List.length_append, List.length_append, sh, si]
        omega
      · rw [List.mem_singleton.mp hs]
        show e.bars.length ≤ 6 ∧ e.rs.length ≤ 4
        omega
    · cases hs
  · unfold aloneF at hs
    obtain ⟨f, hf, rfl⟩ := List.mem_map.mp hs
    have ff := ok.h2.few.2 f (List.mem_filter.mp hf).1
    show (shB 1 f.bars).length ≤ 6 ∧ (shI 1 f.rs).length ≤ 4
    rw [sh, si]; omega
def daE (x : D) : Prop := x.da = true ∧ x.dep ≤ 3
theorem fold_da (at_ : Nat) : ∀ (l : List Stp) (st : Ste), (∀ s ∈ l, s.bars.length ≤ 6 ∧ s.rs.length ≤ 4) → (∀ x ∈ st.2, daE x) → ∀ x ∈ (l.foldl (addS at_) st).2, daE x
  | [], _, _, h => h
  | s :: l, st, hl, h => fold_da at_ l (addS at_ st s) (fun y hy => hl y (List.mem_cons_of_mem _ hy)) fun x hx => by
    have hx : x ∈ addX st.2 (edAt at_ (addO st.1 s.p) s) := hx
    unfold addX at hx
    split at hx
    · exact h x hx
    · rcases List.mem_append.mp hx with hx | hx
      · exact h x hx
      · have := hl s List.mem_cons_self
        rw [List.mem_singleton.mp hx]
        exact ⟨edge_da (by show s.bars.length ≤ 1000000; omega) (by show s.rs.length ≤ 1000000; omega), edge_dep _⟩
theorem bfs_da {one two : Plan} (ok : okS one two) : ∀ n, ∀ x ∈ (bfs one two n).2, daE x
  | 0 => fun x hx => (List.not_mem_nil hx).elim
  | n + 1 => by
    show ∀ x ∈ (turnF one two n (bfs one two n)).2, daE x
    unfold turnF
    split
    · exact fold_da n _ _ (fun s hs => JL_few ok ((srt_perm stD _).mem_iff.mp hs)) (bfs_da ok n)
    · exact bfs_da ok n
theorem joined_da {one two : Plan} (ok : okJ one two) : (oD (joinedF one two)).da = true ∧ (oD (joinedF one two)).dep ≤ 6 := by
  unfold joinedF
  split
  · exact ⟨rfl, Nat.zero_le _⟩
  · next hc =>
    split
    · exact ⟨rfl, Nat.zero_le _⟩
    · next hs =>
      have okk := c_two ok (by omega)
      have bo := bfs_ok okk 16
      have bd := bfs_da okk 16
      generalize bfs one two 16 = st at *
      show (joinedD one two st).da = true ∧ (joinedD one two st).dep ≤ 6
      unfold joinedD
      refine quad_ok (F := (jends one two st.1).map D.int) (fun x hx => ?_) (fun x hx => bd x (sortD_mem.mp hx)) ints_ok (by rw [List.length_map]; omega) (by rw [sortD_len]; omega) ?_
      · obtain ⟨p, hp, rfl⟩ := List.mem_map.mp hx
        have okp := bo.pr p hp
        obtain ⟨b1, c1⟩ := bounds_at okk.h1 okp.1.1 okp.1.2
        obtain ⟨b2, c2⟩ := bounds_at okk.h2 okp.2.1 okp.2.2
        refine ⟨bars_da ?_, bars_dep _⟩
        unfold jb
        rw [(srt_perm barD _).length_eq, List.length_append, shB, List.length_map]
        omega
      · unfold jends
        rw [List.length_map, List.length_map]
        refine Nat.le_trans (List.length_filter_le _ _) ?_
        rw [List.length_range]; omega
theorem order_da {p : Plan} (h : drP 2 p) (ns : List Nat) : (orderD p ns).da = true ∧ (orderD p ns).dep ≤ 6 := by
  have hm := h.ok.m
  have hn := h.ok.n
  have he := h.ends
  unfold orderD
  refine quad_ok (B := (ordB p ns).map barsD) (fun x hx => ?_) (fun x hx => ?_) (fun x hx => ?_) ?_ (by rw [sortD_len, List.length_map]; omega) (by rw [sortD_len, List.length_map]; omega)
  · obtain ⟨bs, hb, rfl⟩ := List.mem_map.mp hx
    unfold ordB at hb
    obtain ⟨k, _, rfl⟩ := List.mem_map.mp hb
    refine ⟨bars_da ?_, bars_dep _⟩
    cases e : p.bounds[ns.idxOf k]? with
    | none => exact Nat.zero_le _
    | some bs => have := h.few.1 bs (List.mem_of_getElem? e); show bs.length ≤ _; omega
  · obtain ⟨e, hen, rfl⟩ := List.mem_map.mp (sortD_mem.mp hx)
    have := h.few.2 e hen
    exact ⟨edge_da (by show e.bars.length ≤ _; omega) (by show e.rs.length ≤ _; omega), edge_dep _⟩
  · obtain ⟨s, _, rfl⟩ := List.mem_map.mp (sortD_mem.mp hx)
    exact ⟨rfl, Nat.le_refl _⟩
  · unfold ordB
    rw [List.length_map, List.length_map, List.length_range]; omega
theorem more_da {p : Plan} (h : drP 2 p) : (D.tup [.int 2, boundsD p.bounds, edgesD p.edges, isD p.ends]).da = true ∧ (D.tup [.int 2, boundsD p.bounds, edgesD p.edges, isD p.ends]).dep ≤ 6 := by
  have hm := h.ok.m
  have hn := h.ok.n
  have he := h.ends
  refine quad_ok (B := p.bounds.map barsD) (E := p.edges.map edgeD) (F := p.ends.map D.int) (fun x hx => ?_) (fun x hx => ?_) ints_ok (by rw [List.length_map]; omega) (by rw [List.length_map]; omega) (by rw [List.length_map]; omega)
  · obtain ⟨bs, hb, rfl⟩ := List.mem_map.mp hx
    have := h.few.1 bs hb
    exact ⟨bars_da (by omega), bars_dep _⟩
  · obtain ⟨e, hen, rfl⟩ := List.mem_map.mp hx
    have := h.few.2 e hen
    exact ⟨edge_da (by omega) (by omega), edge_dep _⟩
theorem eqd_m {x : D} {M : Mem} {Q : D → Mem → Prop} (h : x.da = true ∧ x.dep ≤ 6) (q : Q (.bl true) M) : r__law_equal.f [x, x] M Q := equal_at (n := 6) (.inl ⟨h.1, h.1, h.2⟩) (fun _ => q) fun z => absurd ((eqv_da h.1).mpr rfl) z
end K31

namespace K31
open PySem PySem.Spec PyProof.Rows L2 MP
open PL (Bar Edge Plan barD barsD edgeD planD boundsD edgesD okP drP okB okBs okE okNs sg sgs isD deps_le edge_nb edge_dep bars_pl is_nb bars_dep is_dep edge_alike alike_bars alike_is)

local macro_rules | `(tactic| walk_at "mp1") => `(tactic| simp only [e_iPd, e_sIdx2, e_wIdxT, e_sRaise, e_sTryN, e_wFld, e_gFld, e_wMe, e_wNew, e_wVar, e_wC, e_wOp, e_wUn, e_aNil, e_aCons, e_wCB, e_wCK, e_wTup, e_wLst, e_wtB, e_wtV, e_wtNot, e_wtAnd, e_wtOr, e_wAnd, e_wOr, e_wNot, e_wIf, e_wChain, e_wSl, e_oNone, e_oSome, e_wBM, e_wLc, e_wLc2, e_wDc, e_wDn, e_wDn2, e_nRng1, e_iRg, e_wRev, e_revF_tup, e_wtYes, e_sNil, e_sSeq, e_sBreak, e_sCont, e_sDrop, e_sRet, e_sRetN, e_sIf, e_sAsg, e_sPar, e_sAug, e_sFor, e_gN, e_gsNil, e_gsCons, e_gT, e_gSubD, e_iSeq, e_iR1, e_iR2, e_iEnumL, e_iEnumT, e_iZipW, e_mAppend, e_mExtend, e_mIndex, e_nLen, e_nTuple, e_nList, e_nBls, e_rIx, e_rIadd_int, e_nSorted, e_nSortedK, e_nSortedS, e_wDNew, e_wDisp2, e_iKy, e_iPr, e_nBest, e_kBestD, e_rAdd_int, e_rAdd_tup, e_rAdd_str, e_rAdd_ref, e_rSub_int, e_rMulA_int, e_rMulA_tup, e_rMulA_ref, e_rFdiv_int, e_rMod_int, e_rPow_int, e_rLe_int, e_rGt_int, e_rGe_int, e_rLt_int, e_rLt_tup, e_rEqn_int, e_rEqn_str, e_rEqn_bl, e_rEqn_tup, e_rEqn_ref, e_rIsn_non, e_rIsn_bl, e_rInn_tup, e_rNeg_int, e_ix_tup, e_ix_fl, len_tup, len_fl, items_tup, items_fl, iseq_tup, iseq_fl, e_nInt_int, e_nInt_bl, e_nInt1_int, e_nInt2_int, e_r2F, e_tru_bl, e_tru_int, e_tru_tup, tn_int, tn_bl, tn_str, tn_non, tn_tup, tn_fl, kb_int_int, kb_int_bool, kb_int_str, kb_int_tuple, kb_int_list, kb_bool_int, kb_bool_bool, kb_bool_str, kb_bool_tuple, kb_bool_list, kb_str_int, kb_str_bool, kb_str_str, kb_str_tuple, kb_str_list, kb_NoneType_int, kb_NoneType_bool, kb_NoneType_str, kb_NoneType_tuple, kb_NoneType_list, kb_tuple_int, kb_tuple_bool, kb_tuple_str, kb_tuple_tuple, kb_tuple_list, kb_list_int, kb_list_bool, kb_list_str, kb_list_tuple, kb_list_list, s_at0, s_at1, s_at2, s_at3, s_at4, s_ex2, startD, List.map_cons, List.map_nil, List.length_cons, List.length_nil, List.replicate_succ, List.replicate_zero, List.cons_append, List.nil_append, List.append_nil, Nat.sub_self, Nat.reduceAdd, Nat.reduceSub, List.getElem?_cons_zero, List.getElem?_cons_succ, List.getElem?_nil, Option.some.injEq, reduceCtorEq, false_and, and_false, exists_false, exists_eq_left', exists_and_left, exists_and_right, exists_eq_right, D.int.injEq, D.bl.injEq, D.str.injEq, D.tup.injEq, D.ref.injEq, D.ty.injEq, List.cons.injEq, and_self, true_and, and_true, exists_eq_left, List.set_cons_zero, List.set_cons_succ, wipeD, forall_const, if_true, false_implies, true_implies, implies_true, Bool.false_eq_true, Bool.true_eq_false, eq_self_iff_true, xor_f, xor_t, Bool.not_true, Bool.not_false, decide_eq_true_eq, decide_eq_false_iff_not])
local macro_rules | `(tactic| walk_at "mp") => `(tactic| (try dsimp only); (try walk_at "mp1"))
local macro_rules | `(tactic| walk_at "cm") => `(tactic| first | exact cmul_r ⟨by decide, by decide⟩ | exact cmul_l ⟨by decide, by decide⟩ | exact cmul_r ⟨by omega, by omega⟩ | exact cmul_l ⟨by omega, by omega⟩)
theorem vw_refl {P : Program} {w : World} {K : PySem.W.Frag} {M : Mem} : Vw P w K M M := ⟨fun _ h => h, fun _ h => h⟩
theorem law_any {n : Nat} {b : WS} (h : ∀ (ns : List Int) (M : Mem), Cons M → ns.length ≤ 63 → ∀ R : D → Mem → Prop, (∀ M', R (.bl true) M') → b.f (rtE R) (startD n [.fl (ns.map .int)]) M) : FnLaw n 1 b r_law := fun P w K H ds M Q rm ⟨⟨ns, e, hl⟩, q⟩ => by
  subst e
  refine ⟨rfl, M, rm, fun _ z => z, b.mono (rtE fun d _ => d = .bl true) _ _ _ ⟨fun _ M' z => ?_, fun d M' z => ?_, fun _ _ z => z, fun _ _ z => z⟩ (h ns M rm.cons hl _ fun _ => rfl)⟩
  · cases z
  · exact ⟨M', vw_refl, by rw [z]; exact q M'⟩
theorem plan_at {p r c : Addr} {m cl : Nat} {n : Int} {M : Mem} {Q : D → Mem → Prop} (hp : M p = some (.pool r c m)) (hm : m + 210 ≤ 1000000000) (hc : 1 ≤ cl ∧ cl ≤ 2) (hn : 1 ≤ n ∧ n ≤ 4)
    (q : ∀ pl : Plan, pl.c = (cl : Nat) → PL.drP 2 pl → Q (planD pl) (mupd M p (.pool r c (m + 210)))) : r__law_plan.f [.ref p, .int ((cl : Nat) : Int), .int n, .int 2] M Q := by
  rw [show r__law_plan = PL.r__law_plan2 from rfl, PL.r__law_plan2, dr_pool hp]
  refine ⟨hm, ⟨p, cl, n, 2, rfl, hc, hn, by decide, by decide⟩, fun d ⟨p', cl', n', top', pl, e, e2, h1, h2, h3⟩ => ?_⟩
  simp only [List.cons.injEq, D.ref.injEq, D.int.injEq, Int.natCast_inj, and_true] at e
  obtain ⟨_, rfl, _, rfl⟩ := e
  subst e2
  exact q pl h1 h2
theorem told_at {one two : Plan} {M : Mem} {Q : D → Mem → Prop} (ok : okJ one two) (q : Q (oD (joinedF one two)) M) : r__law_told.f [planD one, planD two] M Q := ⟨(one, two), ⟨rfl, ok⟩, fun d e => by rw [e]; exact q⟩
theorem ljoined_at {one two : Plan} {M : Mem} {Q : D → Mem → Prop} (ok : okJ one two) (q : Q (oD (joinedF one two)) M) : r__law_joined.f [planD one, planD two] M Q := ⟨(one, two), ⟨rfl, ok⟩, fun d e => by rw [e]; exact q⟩
theorem order_at {p : Plan} {ns : List Nat} {M : Mem} {Q : D → Mem → Prop} (h : drP 2 p) (hn : ns.Perm (List.range p.bounds.length)) (q : Q (orderD p ns) M) : r_with_order.f [planD p, nsD ns] M Q := ⟨(p, ns), ⟨rfl, h, hn⟩, fun d e => by rw [e]; exact q⟩
theorem more_at {p : Plan} {M : Mem} {Q : D → Mem → Prop} (h : drP 2 p) (q : Q (.tup [.int 2, boundsD p.bounds, edgesD p.edges, isD p.ends]) M) : r_with_one_clock_more.f [planD p] M Q := ⟨p, ⟨rfl, h⟩, fun d e => by rw [e]; exact q⟩
theorem turned_at {p r c : Addr} {m n : Nat} {M : Mem} {Q : D → Mem → Prop} (hp : M p = some (.pool r c m)) (hm : m + 4 ≤ 1000000000) (hn : n ≤ 4) (q : ∀ ns : List Nat, ns.Perm (List.range n) → ∀ M', DrS p r c (m + 4) M M' → Q (nsD ns) M') : r__law_turned.f [.ref p, .int ((n : Nat) : Int)] M Q :=
  drof_at hp hm n ⟨p, rfl, hn⟩ fun d M' s ⟨ns, e, h⟩ => by rw [e]; exact q ns h M' s
/-- what is known of the pool -/
def PB (p r c : Addr) (k : Nat) (M : Mem) : Prop := ∃ n, n ≤ k ∧ M p = some (.pool r c n)
theorem PB.new {p r c q : Addr} {k : Nat} {M : Mem} {o : MO} (h : PB p r c k M) (hq : M q = none) : PB p r c k (mupd M q o) := by
  obtain ⟨n, h1, h2⟩ := h
  exact ⟨n, h1, Sub.new hq _ _ h2⟩
theorem idx_ints (k : Nat) : ∀ l : List Nat, (l.map fun (k : Nat) => ((k : Nat) : Int)).idxOf ((k : Nat) : Int) = l.idxOf k
  | [] => rfl
  | y :: ys => by
    rw [List.map_cons, List.idxOf_cons, List.idxOf_cons, idx_ints k ys]
    by_cases e : y = k
    · subst e; simp
    · rw [show (y == k) = false from beq_eq_false_iff_ne.mpr e, show (((y : Nat) : Int) == ((k : Nat) : Int)) = false from beq_eq_false_iff_ne.mpr (by omega)]
theorem cut1of4 (a b c d : D) : MP.cutD [a, b, c, d] (some 1) none = [b, c, d] := rfl
theorem names_perm {n : Nat} {ns : List Nat} (h : ns.Perm (List.range n)) : (0 :: ns.map (1 + ·)).Perm (List.range (n + 1)) := by
  rw [List.range_succ_eq_map]
  refine List.Perm.cons 0 ?_
  have := h.map (1 + ·)
  refine this.trans ?_
  rw [show (fun x => 1 + x) = Nat.succ from funext fun x => Nat.add_comm 1 x]
theorem find_ns (k : Nat) : ∀ ns : List Nat, k ∈ ns → ((ns.map fun k => D.int ((k : Nat) : Int)).findIdx? fun x => eqD x (.int ((k : Nat) : Int))) = some (ns.idxOf k)
  | y :: ys, h => by
    rw [List.map_cons, List.findIdx?_cons, eqD_dec D.int (fun _ => rfl) (fun a b h => by cases h; rfl), List.idxOf_cons]
    by_cases e : y = k
    · subst e
      simp
    · have h2 : k ∈ ys := by
        rcases List.mem_cons.mp h with h | h
        · exact absurd h.symm e
        · exact h
      rw [find_ns k ys h2, decide_eq_false (by omega), show (y == k) = false from beq_eq_false_iff_ne.mpr e]
      rfl
theorem idx2_cut {tA : WA} {wB : WE} {i : Nat} {t2 : Addr → List Int → WS} {u : WS} {A : DEn} {ρ : Sl} {M : Mem} (Iv : Sl → Mem → Prop) (h1 : ∀ (I : Sl → Mem → Prop), (∀ ρ M, Iv ρ M → I ρ M) → tA.f ρ M fun xs M1 => ∃ ns1 : List Int, xs = ns1.map .int ∧ ns1 ≠ [] ∧ ns1.length ≤ sizeLine ∧ wB.f ρ M1 fun d M2 => ∃ ns2 : List Int, d = .tup (ns2.map .int) ∧ ns1.length + ns2.length ≤ sizeLine ∧ ∀ a, M2 a = none →
    (t2 a (ns1 ++ ns2)).f { nx := fun ρ' M' => ρ'[i]? = some (some (.ref a)) ∧ I (ρ'.set i (some (.tup ((ns1 ++ ns2).map .int)))) M', rt := A.rt } (ρ.set i (some (.ref a))) M2) (h2 : ∀ ρ M, Iv ρ M → u.f A ρ M) : (sIdx2 tA wB i t2 u).f A ρ M := h1 (u.f A) h2
theorem law_law : FnLaw 12 1 w_law r_law := law_any fun ns M cn hns R mkR => by
  have sz := sizeLine_eq
  have e62 : (2 : Int) ^ 62 = 4611686018427387904 := by decide
  unfold w_law rtE
  refine seq_cut (fun ρ M1 => ∃ p pr pc, ρ = [some (.fl (ns.map .int)), some (.ref p), none, none, none, none, none, none, none, none, none, none] ∧ M1 p = some (.pool pr pc 0)) (fun I mk => ?_) ?_
  · walk_at "mp"
    exact ⟨⟨ns, rfl, hns⟩, fun p pr pc hp hpr hpc n1 n2 n3 => mk _ _ ⟨p, pr, pc, rfl, mupd_same⟩⟩
  rintro _ M1 ⟨p, pr, pc, rfl, h0⟩
  refine seq_cut (fun ρ M1 => True) (fun I mk => ?_) (fun ρ M1 _ => by
    walk_at "mp"
    exact mkR _)
  · walk_at "mp"
    refine ⟨by decide, by decide, ?_⟩
    refine loop_r0 (fun i ρ M1 => ∃ (x2 x3 x4 x5 x6 x7 x8 x9 x10 x11 : Option D), ρ = [some (.fl (ns.map .int)), some (.ref p), x2, x3, x4, x5, x6, x7, x8, x9, x10, x11] ∧ PB p pr pc (430 * i) M1) ?step (fun ρ M1 _ => mk _ _ trivial) _ _ ⟨_, _, _, _, _, _, _, _, _, _, rfl, 0, Nat.le_refl _, h0⟩
    case step =>
      rintro J mkJ i ρ M1 hi ⟨x2, x3, x4, x5, x6, x7, x8, x9, x10, x11, rfl, m1, hm1, h1⟩
      have hi4 : i < 4 := hi
      simp only [e_gN, List.set_cons_succ, List.set_cons_zero]
      refine seq_cut (fun ρ M1 => ∃ one : Plan, ρ = [some (.fl (ns.map .int)), some (.ref p), some (.int ((i : Nat) : Int)), some (planD one), x4, x5, x6, x7, x8, x9, x10, x11] ∧ drP 2 one ∧ M1 p = some (.pool pr pc (m1 + 211))) (fun I mk => ?_) ?_
      · walk_at "mp"
        rw [draw_at h1]
        refine ⟨by omega, by omega, fun d hd0 hd1 => ?_⟩
        walk_at "mp"
        by_cases hd : d = 0
        · rw [if_pos hd]
          exact plan_at (cl := 2) mupd_same (by omega) (by omega) (by omega) fun pl k1 k2 => mk _ _ ⟨pl, rfl, k2, mupd_same⟩
        · rw [if_neg hd]
          exact plan_at (cl := 1) mupd_same (by omega) (by omega) (by omega) fun pl k1 k2 => mk _ _ ⟨pl, rfl, k2, mupd_same⟩
      rintro _ M2 ⟨one, rfl, hone, h2⟩
      refine seq_cut (fun ρ M1 => ∃ two : Plan, ρ = [some (.fl (ns.map .int)), some (.ref p), some (.int ((i : Nat) : Int)), some (planD one), some (planD two), x5, x6, x7, x8, x9, x10, x11] ∧ okJ one two ∧ M1 p = some (.pool pr pc (m1 + 422))) (fun I mk => ?_) ?_
      · walk_at "mp"
        rw [draw_at h2]
        refine ⟨by omega, by omega, fun d hd0 hd1 => ?_⟩
        walk_at "mp"
        exact plan_at (cl := 1) (n := 2 + if d = 0 then 1 else 0) mupd_same (by omega) (by omega) (by split <;> omega) fun pl k1 k2 => mk _ _ ⟨pl, rfl, ⟨hone, k2, k1⟩, mupd_same⟩
      rintro _ M3 ⟨two, rfl, ok, h3⟩
      refine seq_cut (fun ρ M1 => ρ = [some (.fl (ns.map .int)), some (.ref p), some (.int ((i : Nat) : Int)), some (planD one), some (planD two), x5, x6, x7, x8, x9, x10, x11] ∧ M1 p = some (.pool pr pc (m1 + 422))) (fun I mk => ?_) ?_
      · walk_at "mp"
        refine told_at ok (ljoined_at ok (eqd_m (joined_da ok) ?_))
        walk_at "mp"
        exact mk _ _ ⟨rfl, h3⟩
      rintro _ M4 ⟨rfl, h4⟩
      refine seq_cut (fun ρ M1 => ρ = [some (.fl (ns.map .int)), some (.ref p), some (.int ((i : Nat) : Int)), some (planD one), some (planD two), some (.int ((two.bounds.length : Nat) : Int)), x6, x7, x8, x9, x10, x11] ∧ M1 p = some (.pool pr pc (m1 + 422))) (fun I mk => ?_) ?_
      · rw [plan_def two]
        walk_at "mp"
        rw [List.length_map]
        exact mk _ _ ⟨rfl, h4⟩
      rintro _ M5 ⟨rfl, h5⟩
      have hn := ok.h2.ok.n
      refine idx2_cut (fun ρ M1 => ∃ (x9 x10 : Option D) (nms : List Nat), ρ = [some (.fl (ns.map .int)), some (.ref p), some (.int ((i : Nat) : Int)), some (planD one), some (planD two), some (.int ((two.bounds.length : Nat) : Int)), some (nsD nms), some (boundsD (ordB two nms)), x8, x9, x10, x11] ∧ nms.Perm (List.range two.bounds.length) ∧ PB p pr pc (430 * i + 426) M1) (fun I mk => ?_) ?_
      · walk_at "mp"
        refine ⟨[0], rfl, by simp, by show 1 ≤ sizeLine; omega, ?_⟩
        rw [show ((two.bounds.length : Nat) : Int) - 1 = ((two.bounds.length - 1 : Nat) : Int) by omega]
        refine turned_at h5 (by omega) (by omega) fun ns0 hp0 M' s' => ?_
        have l0 : ns0.length = two.bounds.length - 1 := by rw [hp0.length_eq, List.length_range]
        unfold nsD
        rw [iseq_tup]
        refine lc_enc (fun k : Nat => D.int ((k : Nat) : Int)) (fun k => .int ((1 + k : Nat) : Int)) (fun M2 => M2 = M') ns0 (fun J' mkJ' k hk M2 e => ?_) (by omega) (fun M2 e => ?_) _ rfl
        · subst e
          refine ⟨trivial, ?_⟩
          walk_at "mp"
          exact ⟨by rw [Int.natCast_add]; rfl, mkJ' _ rfl⟩
        · subst e
          refine ⟨trivial, fun q hq => ?_⟩
          rw [items_lst mupd_same]
          have pm := names_perm hp0
          rw [show two.bounds.length - 1 + 1 = two.bounds.length by omega] at pm
          obtain ⟨nms, hnm⟩ : ∃ nms : List Nat, nms = 0 :: ns0.map (1 + ·) := ⟨_, rfl⟩
          have eis : ([0] ++ ns0.map fun k => ((1 + k : Nat) : Int)) = nms.map fun (k : Nat) => ((k : Nat) : Int) := by rw [hnm, List.map_cons, List.map_map]; rfl
          have pb : PB p pr pc (430 * i + 426) (mupd M2 q (.lst (ns0.map fun k => D.int ((1 + k : Nat) : Int)))) := by
            obtain ⟨m, hm, hp'⟩ := s'.1
            exact ⟨m, by omega, Sub.new hq _ _ hp'⟩
          generalize mupd M2 q (.lst (ns0.map fun k => D.int ((1 + k : Nat) : Int))) = M3' at *
          refine ⟨ns0.map fun k => ((1 + k : Nat) : Int), by rw [List.map_map]; rfl, by rw [List.length_map]; show 1 + ns0.length ≤ sizeLine; omega, fun a ha => ⟨by omega, by omega, ?_⟩⟩
          rw [eis]
          rw [← hnm] at pm
          have nm := fun k => pm.mem_iff (a := k)
          rw [rng_enc, Int.toNat_natCast]
          refine lc_enc (riD 0) (fun k => barsD (two.bounds[nms.idxOf k]?.getD [])) (fun M2 => M2 = M3') _ (fun J' mkJ' k hk M4' e => ?_) (by rw [List.length_range]; omega) (fun M4' e => ?_) _ rfl
          · subst e
            have hm : k ∈ nms := (nm k).mpr hk
            have hi2 := List.idxOf_lt_length_of_mem hm
            have hl2 : nms.length = two.bounds.length := by rw [pm.length_eq, List.length_range]
            refine ⟨trivial, ?_⟩
            rw [riD, Int.zero_add, plan_def two]
            walk_at "mp"
            refine ⟨List.mem_map.mpr ⟨k, hm, rfl⟩, ?_⟩
            rw [idx_ints]
            have hb := List.getElem?_eq_getElem (show nms.idxOf k < two.bounds.length by omega)
            generalize two.bounds[nms.idxOf k] = bs at hb
            exact ⟨barsD bs, atI_nat (by rw [List.getElem?_map, hb]; rfl), by rw [hb]; rfl, mkJ' _ rfl⟩
          · subst e
            refine ⟨trivial, fun q2 hq2 => ?_⟩
            rw [items_lst mupd_same]
            refine mk _ _ ⟨x9, x10, nms, ?_, pm, pb.new hq2⟩
            rw [nsD, ordB, boundsD, List.map_map, List.map_map]; rfl
      rintro _ M7 ⟨x9, x10, nms, rfl, hnm, h7⟩
      have hl2 : nms.length = two.bounds.length := by rw [hnm.length_eq, List.length_range]
      have he8 := ok.h2.ok.m
      have hen := ok.h2.ends
      refine seq_cut (fun ρ M1 => ∃ e, ρ = [some (.fl (ns.map .int)), some (.ref p), some (.int ((i : Nat) : Int)), some (planD one), some (planD two), some (.int ((two.bounds.length : Nat) : Int)), some (nsD nms), some (boundsD (ordB two nms)), some (.ref e), x9, x10, x11] ∧ M1 e = some (.lst (sortD (two.edges.map fun e => edgeD (reE nms e)))) ∧ PB p pr pc (430 * i + 426) M1) (fun I mk => ?_) ?_
      · rw [plan_def two]
        walk_at "mp"
        refine lc_enc edgeD (fun e => edgeD (reE nms e)) (fun M' => M' = M7) two.edges (fun J' mkJ' e hen M' eM => ?_) (by omega) (fun M' eM => ?_) _ rfl
        · subst eM
          have oe := ok.h2.ok.edges e hen
          have os := oe.s
          have og := oe.g
          refine ⟨trivial, ?_⟩
          rw [edge_def]
          unfold nsD
          walk_at "mp"
          refine ⟨_, ns_at os.1 (by omega), by omega, ?_⟩
          show MP.rAdd.f (.tup [.int (nAt nms e.s)]) (.tup (MP.cutD [.int e.s, .int e.d, .tup (e.bars.map barD), .tup (e.rs.map D.int), .int e.g] (some 1) (some 4))) M' _
          rw [PL.cut14]
          walk_at "mp"
          exact ⟨by omega, _, ns_at og.1 (by omega), by omega, by omega, rfl, mkJ' _ rfl⟩
        · subst eM
          refine ⟨trivial, fun a ha => ⟨_, rfl, ?_⟩⟩
          have ed : ∀ x ∈ two.edges.map (fun e => edgeD (reE nms e)), ∃ e : Edge, x = edgeD e := fun x hx => by
            obtain ⟨e, _, rfl⟩ := List.mem_map.mp hx
            exact ⟨_, rfl⟩
          exact sorted_eds mupd_same ed fun c hc => mk _ _ ⟨c, rfl, mupd_same, (h7.new ha).new hc⟩
      rintro _ M8 ⟨e, rfl, e8, h8⟩
      refine seq_cut (fun ρ M1 => ρ = [some (.fl (ns.map .int)), some (.ref p), some (.int ((i : Nat) : Int)), some (planD one), some (planD two), some (.int ((two.bounds.length : Nat) : Int)), some (nsD nms), some (boundsD (ordB two nms)), some (.ref e), x9, x10, x11] ∧ PB p pr pc (430 * i + 426) M1) (fun I mk => ?_) ?_
      · walk_at "mp"
        refine order_at ok.h2 hnm ?_
        rw [items_lst e8, plan_def two]
        walk_at "mp"
        refine lc_enc D.int (fun s => .int (nAt nms s)) (fun M' => M' = M8) two.ends (fun J' mkJ' s hsn M' eM => ?_) (by omega) (fun M' eM => ?_) _ rfl
        · subst eM
          have oe := ok.h2.ok.ends s hsn
          refine ⟨trivial, ?_⟩
          unfold nsD
          walk_at "mp"
          exact ⟨_, ns_at oe.1 (by omega), rfl, mkJ' _ rfl⟩
        · subst eM
          refine ⟨trivial, fun d hd => ⟨_, rfl, ?_⟩⟩
          have ie : (two.ends.map (nAt nms)).map D.int = two.ends.map fun s => D.int (nAt nms s) := by rw [List.map_map]; rfl
          have pb := h8.new hd (o := .lst ((two.ends.map (nAt nms)).map D.int))
          rw [← ie]
          refine sorted_ints mupd_same fun f hf => ?_
          rw [items_lst mupd_same]
          refine ⟨by omega, ?_⟩
          have due : D.tup [.int 1, boundsD (ordB two nms), .tup (sortD (two.edges.map fun e => edgeD (reE nms e))), .tup (sortD ((two.ends.map (nAt nms)).map D.int))] = orderD two nms := by
            unfold orderD
            rw [ok.c, ie]
          rw [due]
          refine eqd_m (order_da ok.h2 nms) ?_
          walk_at "mp"
          exact mk _ _ ⟨rfl, pb.new hf⟩
      rintro _ M9 ⟨rfl, h9⟩
      walk_at "mp"
      refine more_at ok.h2 ⟨by omega, ?_⟩
      show MP.rAdd.f (.tup [.int 2]) (.tup (MP.cutD [.int two.c, boundsD two.bounds, edgesD two.edges, isD two.ends] (some 1) none)) M9 _
      rw [cut1of4]
      walk_at "mp"
      refine ⟨by omega, eqd_m (more_da ok.h2) ?_⟩
      walk_at "mp"
      refine mkJ _ _ _ ⟨_, _, _, _, _, _, _, _, _, _, rfl, ?_⟩
      obtain ⟨n, h1, h2⟩ := h9
      exact ⟨n, by omega, h2⟩
end K31

namespace K31
open PySem PySem.Spec PyProof.Rows L2 MP
open PL (Bar Edge Plan barD barsD edgeD planD boundsD edgesD okP drP okB okBs okE okNs sg sgs isD deps_le edge_nb edge_dep bars_pl is_nb bars_dep is_dep edge_alike alike_bars alike_is)
theorem law__law_bars : FnLaw 8 5 w__law_bars r__law_bars := PL.law__law_bars
theorem law__law_plan : FnLaw 15 4 w__law_plan r__law_plan := PL.law__law_plan2
end K31

set_option maxHeartbeats 0
namespace HD
open PySem PySem.Spec PyProof.Rows L2
def top (i : Nat) : Stmt := PySem.Challenge.pw_clockways_k31_plans_joined.main.body.getD i (.Pass ⟨0, 0, 0, 0⟩)

abbrev s_deeds_of : Stmt := top 7
def d_deeds_of : He.DefD := ⟨("deeds_of", none), "deeds_of", "deeds_of", defArgs s_deeds_of, defBody s_deeds_of, defScope s_deeds_of, [], []⟩
abbrev s_shifted : Stmt := top 9
def d_shifted : He.DefD := ⟨("shifted", none), "shifted", "shifted", defArgs s_shifted, defBody s_shifted, defScope s_shifted, [], []⟩
abbrev s_shifted_edge : Stmt := top 10
def d_shifted_edge : He.DefD := ⟨("shifted_edge", none), "shifted_edge", "shifted_edge", defArgs s_shifted_edge, defBody s_shifted_edge, defScope s_shifted_edge, [], []⟩
abbrev s_joint_steps : Stmt := top 11
def d_joint_steps : He.DefD := ⟨("joint_steps", none), "joint_steps", "joint_steps", defArgs s_joint_steps, defBody s_joint_steps, defScope s_joint_steps, [], []⟩
abbrev s_joined_plan : Stmt := top 12
def d_joined_plan : He.DefD := ⟨("joined_plan", none), "joined_plan", "joined_plan", defArgs s_joined_plan, defBody s_joined_plan, defScope s_joined_plan, [], []⟩
abbrev s_with_order : Stmt := top 13
def d_with_order : He.DefD := ⟨("with_order", none), "with_order", "with_order", defArgs s_with_order, defBody s_with_order, defScope s_with_order, [], []⟩
abbrev s_with_one_clock_more : Stmt := top 14
def d_with_one_clock_more : He.DefD := ⟨("with_one_clock_more", none), "with_one_clock_more", "with_one_clock_more", defArgs s_with_one_clock_more, defBody s_with_one_clock_more, defScope s_with_one_clock_more, [], []⟩
abbrev s__law_cell : Stmt := top 16
def d__law_cell : He.DefD := ⟨("_law_cell", none), "_law_cell", "_law_cell", defArgs s__law_cell, defBody s__law_cell, defScope s__law_cell, [], []⟩
abbrev s__law_numbers : Stmt := top 17
def d__law_numbers : He.DefD := ⟨("_law_numbers", none), "_law_numbers", "_law_numbers", defArgs s__law_numbers, defBody s__law_numbers, defScope s__law_numbers, [], []⟩
abbrev s__law_pool : Stmt := top 18
def d__law_pool : He.DefD := ⟨("_law_pool", none), "_law_pool", "_law_pool", defArgs s__law_pool, defBody s__law_pool, defScope s__law_pool, [], []⟩
abbrev s__law_draw : Stmt := top 19
def d__law_draw : He.DefD := ⟨("_law_draw", none), "_law_draw", "_law_draw", defArgs s__law_draw, defBody s__law_draw, defScope s__law_draw, [], []⟩
abbrev s__law_kind : Stmt := top 20
def d__law_kind : He.DefD := ⟨("_law_kind", none), "_law_kind", "_law_kind", defArgs s__law_kind, defBody s__law_kind, defScope s__law_kind, [], []⟩
abbrev s__law_equal : Stmt := top 21
def d__law_equal : He.DefD := ⟨("_law_equal", none), "_law_equal", "_law_equal", defArgs s__law_equal, defBody s__law_equal, defScope s__law_equal, [], []⟩
abbrev s__law_bars : Stmt := top 22
def d__law_bars : He.DefD := ⟨("_law_bars", none), "_law_bars", "_law_bars", defArgs s__law_bars, defBody s__law_bars, defScope s__law_bars, [], []⟩
abbrev s__law_plan : Stmt := top 23
def d__law_plan : He.DefD := ⟨("_law_plan", none), "_law_plan", "_law_plan", defArgs s__law_plan, defBody s__law_plan, defScope s__law_plan, [], []⟩
abbrev s__law_shifted : Stmt := top 24
def d__law_shifted : He.DefD := ⟨("_law_shifted", none), "_law_shifted", "_law_shifted", defArgs s__law_shifted, defBody s__law_shifted, defScope s__law_shifted, [], []⟩
abbrev s__law_joint : Stmt := top 25
def d__law_joint : He.DefD := ⟨("_law_joint", none), "_law_joint", "_law_joint", defArgs s__law_joint, defBody s__law_joint, defScope s__law_joint, [], []⟩
abbrev s__law_joined : Stmt := top 26
def d__law_joined : He.DefD := ⟨("_law_joined", none), "_law_joined", "_law_joined", defArgs s__law_joined, defBody s__law_joined, defScope s__law_joined, [], []⟩
abbrev s__law_told : Stmt := top 27
def d__law_told : He.DefD := ⟨("_law_told", none), "_law_told", "_law_told", defArgs s__law_told, defBody s__law_told, defScope s__law_told, [], []⟩
abbrev s__law_turned : Stmt := top 28
def d__law_turned : He.DefD := ⟨("_law_turned", none), "_law_turned", "_law_turned", defArgs s__law_turned, defBody s__law_turned, defScope s__law_turned, [], []⟩
abbrev s_law : Stmt := top 29
def d_law : He.DefD := ⟨("law", none), "law", "law", defArgs s_law, defBody s_law, defScope s_law, [], []⟩
def fn : List He.DefD := ([d_deeds_of, d_shifted, d_shifted_edge, d_joint_steps, d_joined_plan, d_with_order, d_with_one_clock_more, d__law_cell, d__law_numbers, d__law_pool, d__law_draw, d__law_kind, d__law_equal, d__law_bars, d__law_plan, d__law_shifted, d__law_joint, d__law_joined, d__law_told, d__law_turned] : List He.DefD) ++ ([d_law] : List He.DefD)
def fa : List He.Fa := ([.glo "deeds_of", .glo "shifted", .glo "shifted_edge", .glo "joint_steps", .glo "joined_plan", .glo "with_order", .glo "with_one_clock_more", .glo "_law_cell", .glo "_law_numbers", .glo "_law_pool", .glo "_law_draw", .glo "_law_kind", .glo "_law_equal", .glo "_law_bars", .glo "_law_plan", .glo "_law_shifted", .glo "_law_joint", .glo "_law_joined", .glo "_law_told", .glo "_law_turned"] : List He.Fa) ++ ([.glo "law", .free "ValueError", .free "bool", .free "enumerate", .free "int", .free "isinstance", .free "len", .free "list", .free "max", .free "min", .free "range", .free "sorted", .free "str", .free "tuple", .int "MOST_CLOCKS" 2, .int "MOST_STATES" 4, .int "MOST_EDGES" 8, .glo "ClockError", .glo "TooMany", .exc "TooMany"] : List He.Fa) ++ ([.exm "TooMany" "TooMany" true] : List He.Fa)
def loose : List PySem.Str := (["deeds_of", "shifted", "shifted_edge", "joint_steps", "joined_plan", "with_order", "with_one_clock_more", "_law_cell", "_law_numbers", "_law_pool", "_law_draw", "_law_kind", "_law_equal", "_law_bars", "_law_plan", "_law_shifted", "_law_joint", "_law_joined", "_law_told", "_law_turned"] : List PySem.Str) ++ (["MOST_CLOCKS", "MOST_STATES", "MOST_EDGES", "ClockError", "TooMany"] : List PySem.Str)
abbrev R : PySem.W.OpenRow := PySem.W.OpenLaw.row PySem.Challenge.rw_clockways_k31_plans_joined
def exT (K : PySem.W.Frag) : Bool := [MP.tryB K "TooMany" "ClockError"].all id
abbrev hk : PySem.W.Hook := He.hookX 5 fa fn [] [] exT
def ob (s : PySem.W.SharedT) : He.AlX := He.obsX 5 fa fn [] [] exT (HandSHeadRun.getT s)
theorem ob_eq (s : PySem.W.SharedT) : ob s = hk.obs s.abs := He.obsX_eq (HandSHeadRun.getT_eq s)
theorem run (w : World) : HandSHeadRun.RunEq R (PySem.W.view R.prog [29]) hk ob 4000 loose w := by
  intro os
  kernel_rfl
end HD

set_option maxHeartbeats 4000000
namespace K31
open PySem PySem.Spec PyProof.Rows L2 MP HD 
/-! the walk, as gen.py printed it -/
structure Wd (K : PySem.W.Frag) (mg : Str → Option Value) : Prop where
  ex : ∃ h : Heap, K.In h ∧ h.Ns mainGlobals mg
  c : He.SaysD fa fn K
  t : HD.exT K = true
section
variable {P : Program} {w : World} {K : PySem.W.Frag} {mg : Str → Option Value} {base : Heap}
theorem g_bool (W : Wd K mg) : mg "bool" = none := let ⟨_, X, G⟩ := W.ex; He.free_ok X G (W.c.fact 22 (f := .free "bool") rfl)
theorem g_enumerate (W : Wd K mg) : mg "enumerate" = none := let ⟨_, X, G⟩ := W.ex; He.free_ok X G (W.c.fact 23 (f := .free "enumerate") rfl)
theorem g_int (W : Wd K mg) : mg "int" = none := let ⟨_, X, G⟩ := W.ex; He.free_ok X G (W.c.fact 24 (f := .free "int") rfl)
theorem g_isinstance (W : Wd K mg) : mg "isinstance" = none := let ⟨_, X, G⟩ := W.ex; He.free_ok X G (W.c.fact 25 (f := .free "isinstance") rfl)
theorem g_len (W : Wd K mg) : mg "len" = none := let ⟨_, X, G⟩ := W.ex; He.free_ok X G (W.c.fact 26 (f := .free "len") rfl)
theorem g_list (W : Wd K mg) : mg "list" = none := let ⟨_, X, G⟩ := W.ex; He.free_ok X G (W.c.fact 27 (f := .free "list") rfl)
theorem g_max (W : Wd K mg) : mg "max" = none := let ⟨_, X, G⟩ := W.ex; He.free_ok X G (W.c.fact 28 (f := .free "max") rfl)
theorem g_min (W : Wd K mg) : mg "min" = none := let ⟨_, X, G⟩ := W.ex; He.free_ok X G (W.c.fact 29 (f := .free "min") rfl)
theorem g_range (W : Wd K mg) : mg "range" = none := let ⟨_, X, G⟩ := W.ex; He.free_ok X G (W.c.fact 30 (f := .free "range") rfl)
theorem g_sorted (W : Wd K mg) : mg "sorted" = none := let ⟨_, X, G⟩ := W.ex; He.free_ok X G (W.c.fact 31 (f := .free "sorted") rfl)
theorem g_str (W : Wd K mg) : mg "str" = none := let ⟨_, X, G⟩ := W.ex; He.free_ok X G (W.c.fact 32 (f := .free "str") rfl)
theorem g_tuple (W : Wd K mg) : mg "tuple" = none := let ⟨_, X, G⟩ := W.ex; He.free_ok X G (W.c.fact 33 (f := .free "tuple") rfl)
theorem k_MOST_CLOCKS (W : Wd K mg) : ∃ t, mg "MOST_CLOCKS" = some (.int 2 t) := let ⟨_, X, G⟩ := W.ex; He.int_ok X G (W.c.fact 34 (f := .int "MOST_CLOCKS" 2) rfl)
theorem kd_MOST_CLOCKS {X : Cx} {pos : Pos} (W : Wd X.K X.mg) (hg : Gl X "MOST_CLOCKS") : DE X (.Name "MOST_CLOCKS" pos) (wC (.int 2)) := let ⟨t, h⟩ := k_MOST_CLOCKS W; de_glob (v := .int 2) hg h ⟨t, rfl⟩ fun _ => .int _
theorem k_MOST_EDGES (W : Wd K mg) : ∃ t, mg "MOST_EDGES" = some (.int 8 t) := let ⟨_, X, G⟩ := W.ex; He.int_ok X G (W.c.fact 36 (f := .int "MOST_EDGES" 8) rfl)
theorem kd_MOST_EDGES {X : Cx} {pos : Pos} (W : Wd X.K X.mg) (hg : Gl X "MOST_EDGES") : DE X (.Name "MOST_EDGES" pos) (wC (.int 8)) := let ⟨t, h⟩ := k_MOST_EDGES W; de_glob (v := .int 8) hg h ⟨t, rfl⟩ fun _ => .int _
theorem k_MOST_STATES (W : Wd K mg) : ∃ t, mg "MOST_STATES" = some (.int 4 t) := let ⟨_, X, G⟩ := W.ex; He.int_ok X G (W.c.fact 35 (f := .int "MOST_STATES" 4) rfl)
theorem kd_MOST_STATES {X : Cx} {pos : Pos} (W : Wd X.K X.mg) (hg : Gl X "MOST_STATES") : DE X (.Name "MOST_STATES" pos) (wC (.int 4)) := let ⟨t, h⟩ := k_MOST_STATES W; de_glob (v := .int 4) hg h ⟨t, rfl⟩ fun _ => .int _
theorem ek_TooMany {X : Cx} (W : Wd X.K X.mg) : ExcK X "TooMany" := let ⟨_, X1, G⟩ := W.ex; let ⟨h1, h2, h3, h4⟩ := He.exc_ok (W.c.fact 39 (f := .exc "TooMany") rfl); ⟨h1, h2, h3, h4, He.glo_ok X1 G (W.c.fact 38 (f := .glo "TooMany") rfl)⟩
theorem tk_TooMany_ClockError {X : Cx} (W : Wd X.K X.mg) : TryK X "TooMany" "ClockError" := let ⟨_, X1, G⟩ := W.ex; let ⟨h1, h2⟩ := tryB_ok (cn := "TooMany") (bn := "ClockError") (List.all_eq_true.mp W.t (MP.tryB X.K "TooMany" "ClockError") (by first | exact .head _ | exact .tail _ (.head _) | exact .tail _ (.tail _ (.head _)) | exact .tail _ (.tail _ (.tail _ (.head _))))); ⟨He.exm_ok (W.c.fact 40 (f := .exm "TooMany" "TooMany" true) rfl), h1, h2, He.glo_ok X1 G (W.c.fact 38 (f := .glo "TooMany") rfl), He.glo_ok X1 G (W.c.fact 37 (f := .glo "ClockError") rfl), g_isinstance W⟩
theorem sc_deeds_of : FnScope ["plan", "edge"] ["plan"] (defScope s_deeds_of) := ⟨rfl, rfl, rfl, by decide +kernel, rfl, by decide +kernel, by decide +kernel⟩
theorem b_deeds_of (W : Wd K mg) (f : Addr) (cdv : Value) (A : Around) (outer : List Env) (s : Shared) (H : Hp) (E : XK) (hr : Room 0 (A.deeper (envOfC "deeds_of" (defScope s_deeds_of) s.heap.objs.size f cdv))) :
    DSs (cxOf C8.CX0 P w K mg base ["plan", "edge"] "deeds_of" (defScope s_deeds_of) f cdv A outer s H E) (defBody s_deeds_of) w_deeds_of :=
  have hu := hr.units
  have nd := sc_deeds_of.nd
  (dss_one (ds_ret (de_callTy f_tuple rfl (g_tuple W) bt_tuple (da_cons (de_callB (f_sortedK rfl hu) rfl (g_sorted W) bb_sorted (da_cons (de_dn (own := [("edge", 1)]) hu rfl nd (di_seq (de_ix (d_ix hu) (dv 0) de_int)) (blkOk_by (by kernel_rfl)) (fun _ _ _ _ _ => (dgn 1 nd)) (fun _ _ _ _ _ => dts_nil) (fun _ _ _ _ _ => (de_ix (d_ix hu) (dv 1) de_int)) (fun _ _ _ _ _ => de_bl)) da_nil)) da_nil))))
theorem c_deeds_of (W : Wd K mg) : Cal P w K mg base 1 "deeds_of" r_deeds_of := by
  obtain ⟨h, X, G⟩ := W.ex
  obtain ⟨fd, F⟩ := W.c.def_ 0 (d := d_deeds_of) rfl
  exact cal_of F sc_deeds_of (He.glo_ok X G (W.c.fact 0 (f := .glo "deeds_of") rfl)) (FunD.bindsN (ps := ["plan"]) F fun _ _ _ _ _ _ us hl => match us, hl with | [_], _ => rfl) law_deeds_of fun cdv A outer s H E hr => b_deeds_of W _ cdv A outer s H E hr
theorem sc_shifted : FnScope ["bars", "by", "clock", "sign", "number"] ["bars", "by"] (defScope s_shifted) := ⟨rfl, rfl, rfl, by decide +kernel, rfl, by decide +kernel, by decide +kernel⟩
theorem b_shifted (W : Wd K mg) (f : Addr) (cdv : Value) (A : Around) (outer : List Env) (s : Shared) (H : Hp) (E : XK) (hr : Room 0 (A.deeper (envOfC "shifted" (defScope s_shifted) s.heap.objs.size f cdv))) :
    DSs (cxOf C8.CX0 P w K mg base ["bars", "by", "clock", "sign", "number"] "shifted" (defScope s_shifted) f cdv A outer s H E) (defBody s_shifted) w_shifted :=
  have hu := hr.units
  have nd := sc_shifted.nd
  (dss_one (ds_ret (de_callTy f_tuple rfl (g_tuple W) bt_tuple (da_cons (de_lc (own := [("clock", 2), ("sign", 3), ("number", 4)]) rfl nd (di_seq (dv 0)) (blkOk_by (by kernel_rfl)) (fun _ _ _ _ _ => (dg_tup rfl (dgs_cons (dgn 2 nd) (dgs_cons (dgn 3 nd) (dgs_cons (dgn 4 nd) dgs_nil))))) (fun _ _ _ _ _ => dts_nil) (fun _ _ _ _ _ => (de_tup (da_cons (de_op d_add (dv 2) (dv 1)) (da_cons (dv 3) (da_cons (dv 4) da_nil)))))) da_nil))))
theorem c_shifted (W : Wd K mg) : Cal P w K mg base 1 "shifted" r_shifted := by
  obtain ⟨h, X, G⟩ := W.ex
  obtain ⟨fd, F⟩ := W.c.def_ 1 (d := d_shifted) rfl
  exact cal_of F sc_shifted (He.glo_ok X G (W.c.fact 1 (f := .glo "shifted") rfl)) (FunD.bindsN (ps := ["bars", "by"]) F fun _ _ _ _ _ _ us hl => match us, hl with | [_, _], _ => rfl) law_shifted fun cdv A outer s H E hr => b_shifted W _ cdv A outer s H E hr
theorem sc_shifted_edge : FnScope ["edge", "by", "state", "deed", "bars", "resets", "goal", "clock"] ["edge", "by"] (defScope s_shifted_edge) := ⟨rfl, rfl, rfl, by decide +kernel, rfl, by decide +kernel, by decide +kernel⟩
theorem b_shifted_edge (W : Wd K mg) (f : Addr) (cdv : Value) (A : Around) (outer : List Env) (s : Shared) (H : Hp) (E : XK) (hr : Room 1 (A.deeper (envOfC "shifted_edge" (defScope s_shifted_edge) s.heap.objs.size f cdv))) :
    DSs (cxOf C8.CX0 P w K mg base ["edge", "by", "state", "deed", "bars", "resets", "goal", "clock"] "shifted_edge" (defScope s_shifted_edge) f cdv A outer s H E) (defBody s_shifted_edge) w_shifted_edge :=
  have hu := hr.units
  have nd := sc_shifted_edge.nd
  (dss_cons (ds_asg (dv 0) (dg_tup rfl (dgs_cons (dgn 2 nd) (dgs_cons (dgn 3 nd) (dgs_cons (dgn 4 nd) (dgs_cons (dgn 5 nd) (dgs_cons (dgn 6 nd) dgs_nil)))))))
    (dss_one (ds_ret (de_tup (da_cons (dv 2) (da_cons (dv 3) (da_cons (de_call (c_shifted W) hr (by decide) rfl (da_cons (dv 4) (da_cons (dv 1) da_nil))) (da_cons (de_callTy f_tuple rfl (g_tuple W) bt_tuple (da_cons (de_lc (own := [("clock", 7)]) rfl nd (di_seq (dv 5)) (blkOk_by (by kernel_rfl)) (fun _ _ _ _ _ => (dgn 7 nd)) (fun _ _ _ _ _ => dts_nil) (fun _ _ _ _ _ => (de_op d_add (dv 7) (dv 1)))) da_nil)) (da_cons (dv 6) da_nil)))))))))
theorem c_shifted_edge (W : Wd K mg) : Cal P w K mg base 2 "shifted_edge" r_shifted_edge := by
  obtain ⟨h, X, G⟩ := W.ex
  obtain ⟨fd, F⟩ := W.c.def_ 2 (d := d_shifted_edge) rfl
  exact cal_of F sc_shifted_edge (He.glo_ok X G (W.c.fact 2 (f := .glo "shifted_edge") rfl)) (FunD.bindsN (ps := ["edge", "by"]) F fun _ _ _ _ _ _ us hl => match us, hl with | [_, _], _ => rfl) law_shifted_edge fun cdv A outer s H E hr => b_shifted_edge W _ cdv A outer s H E hr
theorem sc_joint_steps : FnScope ["one", "two", "pair", "shared", "found", "rows", "state", "deed", "bars", "resets", "goal", "_", "other", "further", "clocks", "there", "alone", "edge", "row"] ["one", "two", "pair"] (defScope s_joint_steps) := ⟨rfl, rfl, rfl, by decide +kernel, rfl, by decide +kernel, by decide +kernel⟩
theorem b_joint_steps (W : Wd K mg) (f : Addr) (cdv : Value) (A : Around) (outer : List Env) (s : Shared) (H : Hp) (E : XK) (hr : Room 2 (A.deeper (envOfC "joint_steps" (defScope s_joint_steps) s.heap.objs.size f cdv))) :
    DSs (cxOf C8.CX0 P w K mg base ["one", "two", "pair", "shared", "found", "rows", "state", "deed", "bars", "resets", "goal", "_", "other", "further", "clocks", "there", "alone", "edge", "row"] "joint_steps" (defScope s_joint_steps) f cdv A outer s H E) (defBody s_joint_steps) w_joint_steps :=
  have hu := hr.units
  have nd := sc_joint_steps.nd
  (dss_cons (ds_set nd (i := 3) rfl (by first | exact Or.inl rfl | exact Or.inr rfl) (de_lc (own := [("deed", 7)]) rfl nd (di_seq (de_call (c_deeds_of W) hr (by decide) rfl (da_cons (dv 0) da_nil))) (blkOk_by (by kernel_rfl)) (fun _ _ _ _ _ => (dgn 7 nd)) (fun _ _ _ _ _ => (dts_one (dt_cmp (d_in hu) (dv 7) (de_call (c_deeds_of W) hr (by decide) rfl (da_cons (dv 1) da_nil)) rfl))) (fun _ _ _ _ _ => (dv 7))) (hs := by with_unfolding_all rfl))
    (dss_cons (ds_set nd (i := 4) rfl (by first | exact Or.inl rfl | exact Or.inr rfl) (de_lst da_nil) (hs := by with_unfolding_all rfl))
    (dss_cons (ds_setLc (i := 5) (own := [("edge", 17)]) rfl nd rfl rfl (sw_true rfl rfl rfl (by kernel_rfl)) (di_seq (de_ix (d_ix hu) (dv 1) de_int)) (blkOk_by (by kernel_rfl)) (fun _ _ _ _ _ => (dgn 17 nd)) (fun _ _ _ _ _ => (dts_one (dt_cmp (d_eq hu) (de_ix (d_ix hu) (dv 17) de_int) (de_ix (d_ix hu) (dv 2) de_int) (nomark _)))) (fun _ _ _ _ _ => (de_call (c_shifted_edge W) hr (by decide) rfl (da_cons (dv 17) (da_cons (de_ix (d_ix hu) (dv 0) de_int) da_nil)))))
    (dss_cons (ds_for (passes_of rfl) rfl (di_seq (de_ix (d_ix hu) (dv 0) de_int)) (dg_tup rfl (dgs_cons (dgn 6 nd) (dgs_cons (dgn 7 nd) (dgs_cons (dgn 8 nd) (dgs_cons (dgn 9 nd) (dgs_cons (dgn 10 nd) dgs_nil)))))) (dss_one (ds_if (DW.dt (dw_and (dt_cmp (d_eq hu) (dv 6) (de_ix (d_ix hu) (dv 2) de_int) (nomark _)) (dw_and1 (dt_cmp (d_notIn hu) (dv 7) (dv 3) rfl)))) (dss_one (ds_expr (de_bm dm_append (dv 4) (da_cons (de_tup (da_cons (dv 7) (da_cons (dv 8) (da_cons (dv 9) (da_cons (de_tup (da_cons (dv 10) (da_cons (de_ix (d_ix hu) (dv 2) de_int) da_nil))) da_nil))))) da_nil)))) (dss_one (ds_if (dt_cmp (d_eq hu) (dv 6) (de_ix (d_ix hu) (dv 2) de_int) (nomark _)) (dss_one (ds_for (passes_of rfl) rfl (di_seq (dv 5)) (dg_tup rfl (dgs_cons (dgn 11 nd) (dgs_cons (dgn 12 nd) (dgs_cons (dgn 13 nd) (dgs_cons (dgn 14 nd) (dgs_cons (dgn 15 nd) dgs_nil)))))) (dss_one (ds_if (dt_cmp (d_eq hu) (dv 12) (dv 7) (nomark _)) (dss_one (ds_expr (de_bm dm_append (dv 4) (da_cons (de_tup (da_cons (dv 7) (da_cons (de_callTy f_tuple rfl (g_tuple W) bt_tuple (da_cons (de_callB (f_sortedT hu) rfl (g_sorted W) bb_sorted (da_cons (de_op d_add (dv 8) (dv 13)) da_nil)) da_nil)) (da_cons (de_op d_add (dv 9) (dv 14)) (da_cons (de_tup (da_cons (dv 10) (da_cons (dv 15) da_nil))) da_nil))))) da_nil)))) dss_nil)))) dss_nil)))))
    (dss_cons (ds_setLc (i := 16) (own := [("row", 18)]) rfl nd rfl rfl (sw_true rfl rfl rfl (by kernel_rfl)) (di_seq (dv 5)) (blkOk_by (by kernel_rfl)) (fun _ _ _ _ _ => (dgn 18 nd)) (fun _ _ _ _ _ => (dts_one (dt_cmp (d_notIn hu) (de_ix (d_ix hu) (dv 18) de_int) (dv 3) rfl))) (fun _ _ _ _ _ => (dv 18)))
    (dss_cons (ds_expr (de_bm dm_extend (dv 4) (da_cons (de_lc (own := [("_", 11), ("deed", 7), ("bars", 8), ("clocks", 14), ("there", 15)]) rfl nd (di_seq (dv 16)) (blkOk_by (by kernel_rfl)) (fun _ _ _ _ _ => (dg_tup rfl (dgs_cons (dgn 11 nd) (dgs_cons (dgn 7 nd) (dgs_cons (dgn 8 nd) (dgs_cons (dgn 14 nd) (dgs_cons (dgn 15 nd) dgs_nil))))))) (fun _ _ _ _ _ => dts_nil) (fun _ _ _ _ _ => (de_tup (da_cons (dv 7) (da_cons (dv 8) (da_cons (dv 14) (da_cons (de_tup (da_cons (de_ix (d_ix hu) (dv 2) de_int) (da_cons (dv 15) da_nil))) da_nil))))))) da_nil)))
    (dss_one (ds_ret (de_callB (f_sorted hu) rfl (g_sorted W) bb_sorted (da_cons (dv 4) da_nil))))))))))
theorem c_joint_steps (W : Wd K mg) : Cal P w K mg base 3 "joint_steps" r_joint_steps := by
  obtain ⟨h, X, G⟩ := W.ex
  obtain ⟨fd, F⟩ := W.c.def_ 3 (d := d_joint_steps) rfl
  exact cal_of F sc_joint_steps (He.glo_ok X G (W.c.fact 3 (f := .glo "joint_steps") rfl)) (FunD.bindsN (ps := ["one", "two", "pair"]) F fun _ _ _ _ _ _ us hl => match us, hl with | [_, _, _], _ => rfl) law_joint_steps fun cdv A outer s H E hr => b_joint_steps W _ cdv A outer s H E hr
theorem sc_joined_plan : FnScope ["one", "two", "order", "edges", "at", "deed", "bars", "resets", "pair", "bounds", "ends", "a", "b", "place"] ["one", "two"] (defScope s_joined_plan) := ⟨rfl, rfl, rfl, by decide +kernel, rfl, by decide +kernel, by decide +kernel⟩
theorem b_joined_plan (W : Wd K mg) (f : Addr) (cdv : Value) (A : Around) (outer : List Env) (s : Shared) (H : Hp) (E : XK) (ex : XD) (hr : Room 3 (A.deeper (envOfC "joined_plan" (defScope s_joined_plan) s.heap.objs.size f cdv))) :
    DSsx (cxOf (L2.CX P w) P w K mg base ["one", "two", "order", "edges", "at", "deed", "bars", "resets", "pair", "bounds", "ends", "a", "b", "place"] "joined_plan" (defScope s_joined_plan) f cdv A outer s H E) ex (defBody s_joined_plan) (w_joined_plan ex) :=
  have hu := hr.units
  have nd := sc_joined_plan.nd
  (dssx_cons (dsx_if (dt_cmp d_gt (de_op d_add (de_ix (d_ix hu) (dv 0) de_int) (de_ix (d_ix hu) (dv 1) de_int)) (kd_MOST_CLOCKS W rfl) (nomark _)) (dssx_one (dsx_raise rfl (ek_TooMany W) rfl)) (dssx_of dss_nil))
    (dssx_cons (dsx_of (ds_set nd (i := 2) rfl (by first | exact Or.inl rfl | exact Or.inr rfl) (de_lst (da_cons (de_tup (da_cons de_int (da_cons de_int da_nil))) da_nil)) (hs := by with_unfolding_all rfl)))
    (dssx_cons (dsx_of (ds_set nd (i := 3) rfl (by first | exact Or.inl rfl | exact Or.inr rfl) de_dnew (hs := by with_unfolding_all rfl)))
    (dssx_cons (dsx_of (ds_set nd (i := 4) rfl (by first | exact Or.inl rfl | exact Or.inr rfl) de_int (hs := by with_unfolding_all rfl)))
    (dssx_cons (dsx_while (passes_of rfl) (dt_cmp (d_lt hu) (dv 4) (de_callB f_len rfl (g_len W) bb_len (da_cons (dv 2) da_nil)) (nomark _)) (dssx_cons (dsx_for (passes_of rfl) rfl (di_seq (de_call (c_joint_steps W) hr (by decide) rfl (da_cons (dv 0) (da_cons (dv 1) (da_cons (de_ix (d_ix hu) (dv 2) (dv 4)) da_nil))))) (dg_tup rfl (dgs_cons (dgn 5 nd) (dgs_cons (dgn 6 nd) (dgs_cons (dgn 7 nd) (dgs_cons (dgn 8 nd) dgs_nil))))) (dssx_cons (dsx_if (dt_cmp (d_notIn hu) (dv 8) (dv 2) rfl) (dssx_cons (dsx_of (ds_expr (de_bm dm_append (dv 2) (da_cons (dv 8) da_nil))))
    (dssx_one (dsx_if (dt_cmp d_gt (de_callB f_len rfl (g_len W) bb_len (da_cons (dv 2) da_nil)) (kd_MOST_STATES W rfl) (nomark _)) (dssx_one (dsx_raise rfl (ek_TooMany W) rfl)) (dssx_of dss_nil)))) (dssx_of dss_nil))
    (dssx_one (dsx_of (ds_asg de_bl (dg_sub hu (dv 3) (de_tup (da_cons (dv 4) (da_cons (dv 5) (da_cons (dv 6) (da_cons (dv 7) (da_cons (de_bm (dm_index hu) (dv 2) (da_cons (dv 8) da_nil)) da_nil))))))))))))
    (dssx_one (dsx_of (ds_aug nd (i := 4) rfl (by first | exact Or.inl rfl | exact Or.inr rfl) de_int ip_addD)))))
    (dssx_cons (dsx_if (dt_cmp d_gt (de_callB f_len rfl (g_len W) bb_len (da_cons (dv 3) da_nil)) (kd_MOST_EDGES W rfl) (nomark _)) (dssx_one (dsx_raise rfl (ek_TooMany W) rfl)) (dssx_of dss_nil))
    (dssx_cons (dsx_of (ds_setLc (i := 9) (own := [("a", 11), ("b", 12)]) rfl nd rfl rfl (sw_true rfl rfl rfl (by kernel_rfl)) (di_seq (dv 2)) (blkOk_by (by kernel_rfl)) (fun _ _ _ _ _ => (dg_tup rfl (dgs_cons (dgn 11 nd) (dgs_cons (dgn 12 nd) dgs_nil)))) (fun _ _ _ _ _ => dts_nil) (fun _ _ _ _ _ => (de_callTy f_tuple rfl (g_tuple W) bt_tuple (da_cons (de_callB (f_sortedT hu) rfl (g_sorted W) bb_sorted (da_cons (de_op d_add (de_ix (d_ix hu) (de_ix (d_ix hu) (dv 0) de_int) (dv 11)) (de_call (c_shifted W) hr (by decide) rfl (da_cons (de_ix (d_ix hu) (de_ix (d_ix hu) (dv 1) de_int) (dv 12)) (da_cons (de_ix (d_ix hu) (dv 0) de_int) da_nil)))) da_nil)) da_nil)))))
    (dssx_cons (dsx_of (ds_setLc (i := 10) (own := [("place", 13), ("a", 11), ("b", 12)]) rfl nd rfl rfl (sw_true rfl rfl rfl (by kernel_rfl)) (di_enumL rfl (g_enumerate W) (da_cons (dv 2) da_nil)) (blkOk_by (by kernel_rfl)) (fun _ _ _ _ _ => (dg_tup rfl (dgs_cons (dgn 13 nd) (dgs_cons (dg_tup rfl (dgs_cons (dgn 11 nd) (dgs_cons (dgn 12 nd) dgs_nil))) dgs_nil)))) (fun _ _ _ _ _ => (dts_one (DW.dt (dw_and (dt_cmp (d_in hu) (dv 11) (de_ix (d_ix hu) (dv 0) de_int) rfl) (dw_and1 (dt_cmp (d_in hu) (dv 12) (de_ix (d_ix hu) (dv 1) de_int) rfl)))))) (fun _ _ _ _ _ => (dv 13))))
    (dssx_one (dsx_of (ds_ret (de_tup (da_cons (de_op d_add (de_ix (d_ix hu) (dv 0) de_int) (de_ix (d_ix hu) (dv 1) de_int)) (da_cons (de_callTy f_tuple rfl (g_tuple W) bt_tuple (da_cons (dv 9) da_nil)) (da_cons (de_callTy f_tuple rfl (g_tuple W) bt_tuple (da_cons (de_callB (f_sortedK rfl hu) rfl (g_sorted W) bb_sorted (da_cons (dv 3) da_nil)) da_nil)) (da_cons (de_callTy f_tuple rfl (g_tuple W) bt_tuple (da_cons (dv 10) da_nil)) da_nil))))))))))))))))
theorem c_joined_plan (W : Wd K mg) : CalX P w K mg base 4 "joined_plan" r_joined_plan := by
  obtain ⟨h, X, G⟩ := W.ex
  obtain ⟨fd, F⟩ := W.c.def_ 4 (d := d_joined_plan) rfl
  exact calX_of F sc_joined_plan (He.glo_ok X G (W.c.fact 4 (f := .glo "joined_plan") rfl)) (FunD.bindsN (ps := ["one", "two"]) F fun _ _ _ _ _ _ us hl => match us, hl with | [_, _], _ => rfl) law_joined_plan fun cdv A outer s H E ex hr => b_joined_plan W _ cdv A outer s H E ex hr
theorem sc_with_order : FnScope ["plan", "names", "bounds", "state", "name", "edges", "deed", "bars", "resets", "goal"] ["plan", "names"] (defScope s_with_order) := ⟨rfl, rfl, rfl, by decide +kernel, rfl, by decide +kernel, by decide +kernel⟩
theorem b_with_order (W : Wd K mg) (f : Addr) (cdv : Value) (A : Around) (outer : List Env) (s : Shared) (H : Hp) (E : XK) (hr : Room 0 (A.deeper (envOfC "with_order" (defScope s_with_order) s.heap.objs.size f cdv))) :
    DSs (cxOf C8.CX0 P w K mg base ["plan", "names", "bounds", "state", "name", "edges", "deed", "bars", "resets", "goal"] "with_order" (defScope s_with_order) f cdv A outer s H E) (defBody s_with_order) w_with_order :=
  have hu := hr.units
  have nd := sc_with_order.nd
  (dss_cons (ds_set nd (i := 2) rfl (by first | exact Or.inl rfl | exact Or.inr rfl) (de_op d_mulA (de_lst (da_cons (de_tup da_nil) da_nil)) (de_callB f_len rfl (g_len W) bb_len (da_cons (dv 1) da_nil))) (hs := by with_unfolding_all rfl))
    (dss_cons (ds_for (passes_of rfl) rfl (di_enumT rfl (g_enumerate W) (da_cons (dv 1) da_nil)) (dg_tup rfl (dgs_cons (dgn 3 nd) (dgs_cons (dgn 4 nd) dgs_nil))) (dss_one (ds_asg (de_ix (d_ix hu) (de_ix (d_ix hu) (dv 0) de_int) (dv 3)) (dg_sub hu (dv 2) (dv 4)))))
    (dss_cons (ds_setLc (i := 5) (own := [("state", 3), ("deed", 6), ("bars", 7), ("resets", 8), ("goal", 9)]) rfl nd rfl rfl (sw_true rfl rfl rfl (by kernel_rfl)) (di_seq (de_ix (d_ix hu) (dv 0) de_int)) (blkOk_by (by kernel_rfl)) (fun _ _ _ _ _ => (dg_tup rfl (dgs_cons (dgn 3 nd) (dgs_cons (dgn 6 nd) (dgs_cons (dgn 7 nd) (dgs_cons (dgn 8 nd) (dgs_cons (dgn 9 nd) dgs_nil))))))) (fun _ _ _ _ _ => dts_nil) (fun _ _ _ _ _ => (de_tup (da_cons (de_ix (d_ix hu) (dv 1) (dv 3)) (da_cons (dv 6) (da_cons (dv 7) (da_cons (dv 8) (da_cons (de_ix (d_ix hu) (dv 1) (dv 9)) da_nil))))))))
    (dss_one (ds_ret (de_tup (da_cons (de_ix (d_ix hu) (dv 0) de_int) (da_cons (de_callTy f_tuple rfl (g_tuple W) bt_tuple (da_cons (dv 2) da_nil)) (da_cons (de_callTy f_tuple rfl (g_tuple W) bt_tuple (da_cons (de_callB (f_sorted hu) rfl (g_sorted W) bb_sorted (da_cons (dv 5) da_nil)) da_nil)) (da_cons (de_callTy f_tuple rfl (g_tuple W) bt_tuple (da_cons (de_callB (f_sorted hu) rfl (g_sorted W) bb_sorted (da_cons (de_lc (own := [("state", 3)]) rfl nd (di_seq (de_ix (d_ix hu) (dv 0) de_int)) (blkOk_by (by kernel_rfl)) (fun _ _ _ _ _ => (dgn 3 nd)) (fun _ _ _ _ _ => dts_nil) (fun _ _ _ _ _ => (de_ix (d_ix hu) (dv 1) (dv 3)))) da_nil)) da_nil)) da_nil))))))))))
theorem c_with_order (W : Wd K mg) : Cal P w K mg base 1 "with_order" r_with_order := by
  obtain ⟨h, X, G⟩ := W.ex
  obtain ⟨fd, F⟩ := W.c.def_ 5 (d := d_with_order) rfl
  exact cal_of F sc_with_order (He.glo_ok X G (W.c.fact 5 (f := .glo "with_order") rfl)) (FunD.bindsN (ps := ["plan", "names"]) F fun _ _ _ _ _ _ us hl => match us, hl with | [_, _], _ => rfl) law_with_order fun cdv A outer s H E hr => b_with_order W _ cdv A outer s H E hr
theorem sc_with_one_clock_more : FnScope ["plan"] ["plan"] (defScope s_with_one_clock_more) := ⟨rfl, rfl, rfl, by decide +kernel, rfl, by decide +kernel, by decide +kernel⟩
theorem b_with_one_clock_more (W : Wd K mg) (f : Addr) (cdv : Value) (A : Around) (outer : List Env) (s : Shared) (H : Hp) (E : XK) (hr : Room 0 (A.deeper (envOfC "with_one_clock_more" (defScope s_with_one_clock_more) s.heap.objs.size f cdv))) :
    DSs (cxOf C8.CX0 P w K mg base ["plan"] "with_one_clock_more" (defScope s_with_one_clock_more) f cdv A outer s H E) (defBody s_with_one_clock_more) w_with_one_clock_more :=
  have hu := hr.units
  have nd := sc_with_one_clock_more.nd
  (dss_one (ds_ret (de_tup (da_cons de_int (da_cons (de_ix (d_ix hu) (dv 0) de_int) (da_cons (de_ix (d_ix hu) (dv 0) de_int) (da_cons (de_ix (d_ix hu) (dv 0) de_int) da_nil)))))))
theorem c_with_one_clock_more (W : Wd K mg) : Cal P w K mg base 1 "with_one_clock_more" r_with_one_clock_more := by
  obtain ⟨h, X, G⟩ := W.ex
  obtain ⟨fd, F⟩ := W.c.def_ 6 (d := d_with_one_clock_more) rfl
  exact cal_of F sc_with_one_clock_more (He.glo_ok X G (W.c.fact 6 (f := .glo "with_one_clock_more") rfl)) (FunD.bindsN (ps := ["plan"]) F fun _ _ _ _ _ _ us hl => match us, hl with | [_], _ => rfl) law_with_one_clock_more fun cdv A outer s H E hr => b_with_one_clock_more W _ cdv A outer s H E hr
theorem sc__law_cell : FnScope ["script", "k"] ["script", "k"] (defScope s__law_cell) := ⟨rfl, rfl, rfl, by decide +kernel, rfl, by decide +kernel, by decide +kernel⟩
theorem b__law_cell (W : Wd K mg) (f : Addr) (cdv : Value) (A : Around) (outer : List Env) (s : Shared) (H : Hp) (E : XK) (hr : Room 0 (A.deeper (envOfC "_law_cell" (defScope s__law_cell) s.heap.objs.size f cdv))) :
    DSs (cxOf C8.CX0 P w K mg base ["script", "k"] "_law_cell" (defScope s__law_cell) f cdv A outer s H E) (defBody s__law_cell) w__law_cell :=
  have hu := hr.units
  have nd := sc__law_cell.nd
  (dss_cons (ds_if (dt_cmp (d_lt hu) (dv 1) (de_callB f_len rfl (g_len W) bb_len (da_cons (dv 0) da_nil)) (nomark _)) (dss_one (ds_ret (de_ix (d_ix hu) (dv 0) (dv 1)))) dss_nil)
    (dss_one (ds_ret de_int)))
theorem c__law_cell (W : Wd K mg) : Cal P w K mg base 1 "_law_cell" r__law_cell := by
  obtain ⟨h, X, G⟩ := W.ex
  obtain ⟨fd, F⟩ := W.c.def_ 7 (d := d__law_cell) rfl
  exact cal_of F sc__law_cell (He.glo_ok X G (W.c.fact 7 (f := .glo "_law_cell") rfl)) (FunD.bindsN (ps := ["script", "k"]) F fun _ _ _ _ _ _ us hl => match us, hl with | [_, _], _ => rfl) law__law_cell fun cdv A outer s H E hr => b__law_cell W _ cdv A outer s H E hr
theorem sc__law_numbers : FnScope ["cell", "many", "rows", "left", "k", "mixed"] ["cell", "many"] (defScope s__law_numbers) := ⟨rfl, rfl, rfl, by decide +kernel, rfl, by decide +kernel, by decide +kernel⟩
theorem b__law_numbers (W : Wd K mg) (f : Addr) (cdv : Value) (A : Around) (outer : List Env) (s : Shared) (H : Hp) (E : XK) (hr : Room 0 (A.deeper (envOfC "_law_numbers" (defScope s__law_numbers) s.heap.objs.size f cdv))) :
    DSs (cxOf C8.CX0 P w K mg base ["cell", "many", "rows", "left", "k", "mixed"] "_law_numbers" (defScope s__law_numbers) f cdv A outer s H E) (defBody s__law_numbers) w__law_numbers :=
  have hu := hr.units
  have nd := sc__law_numbers.nd
  (dss_cons (ds_set nd (i := 2) rfl (by first | exact Or.inl rfl | exact Or.inr rfl) (de_lst da_nil) (hs := by with_unfolding_all rfl))
    (dss_cons (ds_set nd (i := 3) rfl (by first | exact Or.inl rfl | exact Or.inr rfl) (dv 0) (hs := by with_unfolding_all rfl))
    (dss_cons (ds_for (passes_of rfl) rfl (di_range1 rfl (g_range W) (da_cons (dv 1) da_nil)) (dgn 4 nd) (dss_one (ds_if (DW.dt (dw_and (dt_cmp d_ge (dv 0) (de_op d_pow de_int de_int) (nomark _)) (dw_and1 (dt_cmp d_gt (dv 3) de_int (nomark _))))) (dss_cons (ds_expr (de_bm dm_append (dv 2) (da_cons (de_op d_mod (de_callTy f_int rfl (g_int W) bt_int (da_cons (dv 3) da_nil)) de_int) da_nil)))
    (dss_one (ds_set nd (i := 3) rfl (by first | exact Or.inl rfl | exact Or.inr rfl) (de_op d_fdiv (dv 3) de_int) (hs := by with_unfolding_all rfl)))) (dss_cons (ds_set nd (i := 5) rfl (by first | exact Or.inl rfl | exact Or.inr rfl) (de_op d_mod (de_callTy f_int rfl (g_int W) bt_int (da_cons (de_op d_add (de_op d_mulA (dv 0) de_int) (de_op d_mulA (de_op d_add (dv 4) de_int) de_int)) da_nil)) de_int) (hs := by with_unfolding_all rfl))
    (dss_cons (ds_set nd (i := 5) rfl (by first | exact Or.inl rfl | exact Or.inr rfl) (de_op d_mod (de_callTy f_int rfl (g_int W) bt_int (da_cons (de_op d_add (de_op d_add (de_op d_mulA (dv 5) (dv 5)) (de_op d_mulA (dv 5) de_int)) (de_op d_mulA (dv 4) de_int)) da_nil)) de_int) (hs := by with_unfolding_all rfl))
    (dss_cons (ds_set nd (i := 5) rfl (by first | exact Or.inl rfl | exact Or.inr rfl) (de_op d_mod (de_callTy f_int rfl (g_int W) bt_int (da_cons (de_op d_add (de_op d_add (de_op d_mulA (dv 5) (dv 5)) (dv 0)) (de_op d_mulA de_int (dv 4))) da_nil)) de_int) (hs := by with_unfolding_all rfl))
    (dss_one (ds_expr (de_bm dm_append (dv 2) (da_cons (de_op d_mod (de_op d_fdiv (dv 5) de_int) de_int) da_nil))))))))))
    (dss_one (ds_ret (dv 2))))))
theorem c__law_numbers (W : Wd K mg) : Cal P w K mg base 1 "_law_numbers" r__law_numbers := by
  obtain ⟨h, X, G⟩ := W.ex
  obtain ⟨fd, F⟩ := W.c.def_ 8 (d := d__law_numbers) rfl
  exact cal_of F sc__law_numbers (He.glo_ok X G (W.c.fact 8 (f := .glo "_law_numbers") rfl)) (FunD.bindsN (ps := ["cell", "many"]) F fun _ _ _ _ _ _ us hl => match us, hl with | [_, _], _ => rfl) law__law_numbers fun cdv A outer s H E hr => b__law_numbers W _ cdv A outer s H E hr
theorem sc__law_pool : FnScope ["script", "rows", "k"] ["script"] (defScope s__law_pool) := ⟨rfl, rfl, rfl, by decide +kernel, rfl, by decide +kernel, by decide +kernel⟩
theorem b__law_pool (W : Wd K mg) (f : Addr) (cdv : Value) (A : Around) (outer : List Env) (s : Shared) (H : Hp) (E : XK) (hr : Room 1 (A.deeper (envOfC "_law_pool" (defScope s__law_pool) s.heap.objs.size f cdv))) :
    DSs (cxOf C8.CX0 P w K mg base ["script", "rows", "k"] "_law_pool" (defScope s__law_pool) f cdv A outer s H E) (defBody s__law_pool) w__law_pool :=
  have hu := hr.units
  have nd := sc__law_pool.nd
  (dss_cons (ds_set nd (i := 1) rfl (by first | exact Or.inl rfl | exact Or.inr rfl) (de_lst da_nil) (hs := by with_unfolding_all rfl))
    (dss_cons (ds_for (passes_of rfl) rfl (di_range1 rfl (g_range W) (da_cons (de_callB (f_min2 rfl) rfl (g_min W) bb_min (da_cons de_int (da_cons (de_callB (f_max2 rfl) rfl (g_max W) bb_max (da_cons de_int (da_cons (de_callB f_len rfl (g_len W) bb_len (da_cons (dv 0) da_nil)) da_nil))) da_nil))) da_nil)) (dgn 2 nd) (dss_one (ds_set nd (i := 1) rfl (by first | exact Or.inl rfl | exact Or.inr rfl) (de_op d_add (dv 1) (de_call (c__law_numbers W) hr (by decide) rfl (da_cons (de_op d_add (de_call (c__law_cell W) hr (by decide) rfl (da_cons (dv 0) (da_cons (dv 2) da_nil))) (de_op d_mulA de_int (dv 2))) (da_cons de_int da_nil)))) (hs := by with_unfolding_all rfl))))
    (dss_one (ds_ret (de_lst (da_cons (dv 1) (da_cons (de_lst (da_cons de_int da_nil)) da_nil)))))))
theorem c__law_pool (W : Wd K mg) : Cal P w K mg base 2 "_law_pool" r__law_pool := by
  obtain ⟨h, X, G⟩ := W.ex
  obtain ⟨fd, F⟩ := W.c.def_ 9 (d := d__law_pool) rfl
  exact cal_of F sc__law_pool (He.glo_ok X G (W.c.fact 9 (f := .glo "_law_pool") rfl)) (FunD.bindsN (ps := ["script"]) F fun _ _ _ _ _ _ us hl => match us, hl with | [_], _ => rfl) law__law_pool fun cdv A outer s H E hr => b__law_pool W _ cdv A outer s H E hr
theorem sc__law_draw : FnScope ["pool", "many", "at", "turn"] ["pool", "many"] (defScope s__law_draw) := ⟨rfl, rfl, rfl, by decide +kernel, rfl, by decide +kernel, by decide +kernel⟩
theorem b__law_draw (W : Wd K mg) (f : Addr) (cdv : Value) (A : Around) (outer : List Env) (s : Shared) (H : Hp) (E : XK) (hr : Room 0 (A.deeper (envOfC "_law_draw" (defScope s__law_draw) s.heap.objs.size f cdv))) :
    DSs (cxOf C8.CX0 P w K mg base ["pool", "many", "at", "turn"] "_law_draw" (defScope s__law_draw) f cdv A outer s H E) (defBody s__law_draw) w__law_draw :=
  have hu := hr.units
  have nd := sc__law_draw.nd
  (dss_cons (ds_set nd (i := 2) rfl (by first | exact Or.inl rfl | exact Or.inr rfl) (de_ix (d_ix hu) (de_ix (d_ix hu) (dv 0) de_int) de_int) (hs := by with_unfolding_all rfl))
    (dss_cons (ds_asg (de_op d_add (dv 2) de_int) (dg_sub hu (de_ix (d_ix hu) (dv 0) de_int) de_int))
    (dss_cons (ds_set nd (i := 3) rfl (by first | exact Or.inl rfl | exact Or.inr rfl) (de_op d_fdiv (dv 2) (de_callB f_len rfl (g_len W) bb_len (da_cons (de_ix (d_ix hu) (dv 0) de_int) da_nil))) (hs := by with_unfolding_all rfl))
    (dss_one (ds_ret (de_op d_mod (de_callTy f_int rfl (g_int W) bt_int (da_cons (de_op d_add (de_op d_add (de_ix (d_ix hu) (de_ix (d_ix hu) (dv 0) de_int) (de_op d_mod (dv 2) (de_callB f_len rfl (g_len W) bb_len (da_cons (de_ix (d_ix hu) (dv 0) de_int) da_nil)))) (de_op d_mulA (dv 3) de_int)) (de_op d_mulA (de_op d_mulA (dv 3) (dv 2)) de_int)) da_nil)) (dv 1)))))))
theorem c__law_draw (W : Wd K mg) : Cal P w K mg base 1 "_law_draw" r__law_draw := by
  obtain ⟨h, X, G⟩ := W.ex
  obtain ⟨fd, F⟩ := W.c.def_ 10 (d := d__law_draw) rfl
  exact cal_of F sc__law_draw (He.glo_ok X G (W.c.fact 10 (f := .glo "_law_draw") rfl)) (FunD.bindsN (ps := ["pool", "many"]) F fun _ _ _ _ _ _ us hl => match us, hl with | [_, _], _ => rfl) law__law_draw fun cdv A outer s H E hr => b__law_draw W _ cdv A outer s H E hr
theorem sc__law_kind : FnScope ["x"] ["x"] (defScope s__law_kind) := ⟨rfl, rfl, rfl, by decide +kernel, rfl, by decide +kernel, by decide +kernel⟩
theorem b__law_kind (W : Wd K mg) (f : Addr) (cdv : Value) (A : Around) (outer : List Env) (s : Shared) (H : Hp) (E : XK) (hr : Room 0 (A.deeper (envOfC "_law_kind" (defScope s__law_kind) s.heap.objs.size f cdv))) :
    DSs (cxOf C8.CX0 P w K mg base ["x"] "_law_kind" (defScope s__law_kind) f cdv A outer s H E) (defBody s__law_kind) w__law_kind :=
  have hu := hr.units
  have nd := sc__law_kind.nd
  (dss_cons (ds_if (dt_val (de_callB f_isi rfl (g_isinstance W) bb_isinstance (da_cons (dv 0) (da_cons (de_ty rfl (g_bool W) bt_bool) da_nil)))) (dss_one (ds_ret de_int)) dss_nil)
    (dss_cons (ds_if (dt_val (de_callB f_isi rfl (g_isinstance W) bb_isinstance (da_cons (dv 0) (da_cons (de_ty rfl (g_int W) bt_int) da_nil)))) (dss_one (ds_ret de_int)) dss_nil)
    (dss_cons (ds_if (dt_val (de_callB f_isi rfl (g_isinstance W) bb_isinstance (da_cons (dv 0) (da_cons (de_ty rfl (g_str W) bt_str) da_nil)))) (dss_one (ds_ret de_int)) dss_nil)
    (dss_cons (ds_if (dt_val (de_callB f_isi rfl (g_isinstance W) bb_isinstance (da_cons (dv 0) (da_cons (de_ty rfl (g_tuple W) bt_tuple) da_nil)))) (dss_one (ds_ret de_int)) dss_nil)
    (dss_cons (ds_if (dt_val (de_callB f_isi rfl (g_isinstance W) bb_isinstance (da_cons (dv 0) (da_cons (de_ty rfl (g_list W) bt_list) da_nil)))) (dss_one (ds_ret de_int)) dss_nil)
    (dss_cons (ds_if (dt_cmp d_is (dv 0) de_non (nomark _)) (dss_one (ds_ret de_int)) dss_nil)
    (dss_one (ds_ret de_int))))))))
theorem c__law_kind (W : Wd K mg) : Cal P w K mg base 1 "_law_kind" r__law_kind := by
  obtain ⟨h, X, G⟩ := W.ex
  obtain ⟨fd, F⟩ := W.c.def_ 11 (d := d__law_kind) rfl
  exact cal_of F sc__law_kind (He.glo_ok X G (W.c.fact 11 (f := .glo "_law_kind") rfl)) (FunD.bindsN (ps := ["x"]) F fun _ _ _ _ _ _ us hl => match us, hl with | [_], _ => rfl) law__law_kind fun cdv A outer s H E hr => b__law_kind W _ cdv A outer s H E hr
theorem sc__law_equal : FnScope ["x", "due", "k"] ["x", "due"] (defScope s__law_equal) := ⟨rfl, rfl, rfl, by decide +kernel, rfl, by decide +kernel, by decide +kernel⟩
theorem b__law_equal (W : Wd K mg) {rr : WN} {j : Nat} (h_law_equal : 1 ≤ j) (rec : Cal P w K mg base j "_law_equal" rr) (f : Addr) (cdv : Value) (A : Around) (outer : List Env) (s : Shared) (H : Hp) (E : XK) (hr : Room j (A.deeper (envOfC "_law_equal" (defScope s__law_equal) s.heap.objs.size f cdv))) :
    DSs (cxOf C8.CX0 P w K mg base ["x", "due", "k"] "_law_equal" (defScope s__law_equal) f cdv A outer s H E) (defBody s__law_equal) (w__law_equal rr) :=
  have hu := hr.units
  have nd := sc__law_equal.nd
  (dss_cons (ds_if (DW.dt (dw_or (dt_cmp (d_ne hu) (de_call (c__law_kind W) hr (by omega) rfl (da_cons (dv 0) da_nil)) (de_call (c__law_kind W) hr (by omega) rfl (da_cons (dv 1) da_nil)) (nomark _)) (dw_or1 (dt_cmp (d_eq hu) (de_call (c__law_kind W) hr (by omega) rfl (da_cons (dv 0) da_nil)) de_int (nomark _))))) (dss_one (ds_ret de_bl)) dss_nil)
    (dss_cons (ds_if (DW.dt (dw_or (dt_val (de_callB f_isi rfl (g_isinstance W) bb_isinstance (da_cons (dv 1) (da_cons (de_ty rfl (g_tuple W) bt_tuple) da_nil)))) (dw_or1 (dt_val (de_callB f_isi rfl (g_isinstance W) bb_isinstance (da_cons (dv 1) (da_cons (de_ty rfl (g_list W) bt_list) da_nil))))))) (dss_cons (ds_if (dt_cmp (d_ne hu) (de_callB f_len rfl (g_len W) bb_len (da_cons (dv 0) da_nil)) (de_callB f_len rfl (g_len W) bb_len (da_cons (dv 1) da_nil)) (nomark _)) (dss_one (ds_ret de_bl)) dss_nil)
    (dss_cons (ds_for (passes_of rfl) rfl (di_range1 rfl (g_range W) (da_cons (de_callB f_len rfl (g_len W) bb_len (da_cons (dv 1) da_nil)) da_nil)) (dgn 2 nd) (dss_one (ds_if (dt_not (dt_val (de_call rec hr (Nat.le_refl _) rfl (da_cons (de_ix (d_ix hu) (dv 0) (dv 2)) (da_cons (de_ix (d_ix hu) (dv 1) (dv 2)) da_nil))))) (dss_one (ds_ret de_bl)) dss_nil)))
    (dss_one (ds_ret de_bl)))) dss_nil)
    (dss_one (ds_ret (de_cmp (d_eq hu) (dv 0) (dv 1) (nomark _))))))
theorem cc__law_equal (W : Wd K mg) : ∀ d : Nat, Cal P w K mg base (1 + d) "_law_equal" (rr__law_equal d)
  | 0 => by
    obtain ⟨h, X, G⟩ := W.ex
    obtain ⟨fd, F⟩ := W.c.def_ 12 (d := d__law_equal) rfl
    exact cal_none F (He.glo_ok X G (W.c.fact 12 (f := .glo "_law_equal") rfl)) (FunD.bindsN (ps := ["x", "due"]) F fun _ _ _ _ _ _ us hl => match us, hl with | [_, _], _ => rfl) rr0__law_equal
  | d + 1 => by
    obtain ⟨h, X, G⟩ := W.ex
    obtain ⟨fd, F⟩ := W.c.def_ 12 (d := d__law_equal) rfl
    exact cal_of F sc__law_equal (He.glo_ok X G (W.c.fact 12 (f := .glo "_law_equal") rfl)) (FunD.bindsN (ps := ["x", "due"]) F fun _ _ _ _ _ _ us hl => match us, hl with | [_, _], _ => rfl) (law__law_equal d) fun cdv A outer s H E hr => b__law_equal W (by omega) (cc__law_equal W d) _ cdv A outer s H E hr
theorem c__law_equal (W : Wd K mg) : Cal P w K mg base 8 "_law_equal" r__law_equal := cc__law_equal W 7
theorem sc__law_bars : FnScope ["pool", "clocks", "signs", "top", "lean", "found", "clock", "bar"] ["pool", "clocks", "signs", "top", "lean"] (defScope s__law_bars) := ⟨rfl, rfl, rfl, by decide +kernel, rfl, by decide +kernel, by decide +kernel⟩
theorem b__law_bars (W : Wd K mg) (f : Addr) (cdv : Value) (A : Around) (outer : List Env) (s : Shared) (H : Hp) (E : XK) (hr : Room 1 (A.deeper (envOfC "_law_bars" (defScope s__law_bars) s.heap.objs.size f cdv))) :
    DSs (cxOf C8.CX0 P w K mg base ["pool", "clocks", "signs", "top", "lean", "found", "clock", "bar"] "_law_bars" (defScope s__law_bars) f cdv A outer s H E) (defBody s__law_bars) w__law_bars :=
  have hu := hr.units
  have nd := sc__law_bars.nd
  (dss_cons (ds_set nd (i := 5) rfl (by first | exact Or.inl rfl | exact Or.inr rfl) (de_lst da_nil) (hs := by with_unfolding_all rfl))
    (dss_cons (ds_for (passes_of rfl) rfl (di_range1 rfl (g_range W) (da_cons (dv 1) da_nil)) (dgn 6 nd) (dss_one (ds_if (dt_cmp (d_eq hu) (de_call (c__law_draw W) hr (by decide) rfl (da_cons (dv 0) (da_cons (dv 4) da_nil))) de_int (nomark _)) (dss_one (ds_expr (de_bm dm_append (dv 5) (da_cons (de_tup (da_cons (dv 6) (da_cons (de_ix (d_ix hu) (dv 2) (de_call (c__law_draw W) hr (by decide) rfl (da_cons (dv 0) (da_cons (de_callB f_len rfl (g_len W) bb_len (da_cons (dv 2) da_nil)) da_nil)))) (da_cons (de_call (c__law_draw W) hr (by decide) rfl (da_cons (dv 0) (da_cons (de_op d_add (dv 3) de_int) da_nil))) da_nil)))) da_nil)))) dss_nil)))
    (dss_cons (ds_if (dt_cmp (d_eq hu) (de_call (c__law_draw W) hr (by decide) rfl (da_cons (dv 0) (da_cons de_int da_nil))) de_int (nomark _)) (dss_cons (ds_set nd (i := 7) rfl (by first | exact Or.inl rfl | exact Or.inr rfl) (de_tup (da_cons (de_call (c__law_draw W) hr (by decide) rfl (da_cons (dv 0) (da_cons (dv 1) da_nil))) (da_cons (de_ix (d_ix hu) (dv 2) (de_call (c__law_draw W) hr (by decide) rfl (da_cons (dv 0) (da_cons (de_callB f_len rfl (g_len W) bb_len (da_cons (dv 2) da_nil)) da_nil)))) (da_cons (de_call (c__law_draw W) hr (by decide) rfl (da_cons (dv 0) (da_cons (de_op d_add (dv 3) de_int) da_nil))) da_nil)))) (hs := by with_unfolding_all rfl))
    (dss_one (ds_if (dt_cmp (d_notIn hu) (dv 7) (dv 5) rfl) (dss_one (ds_expr (de_bm dm_append (dv 5) (da_cons (dv 7) da_nil)))) dss_nil))) dss_nil)
    (dss_one (ds_ret (de_callTy f_tuple rfl (g_tuple W) bt_tuple (da_cons (de_callB (f_sorted hu) rfl (g_sorted W) bb_sorted (da_cons (dv 5) da_nil)) da_nil)))))))
theorem c__law_bars (W : Wd K mg) : Cal P w K mg base 2 "_law_bars" r__law_bars := by
  obtain ⟨h, X, G⟩ := W.ex
  obtain ⟨fd, F⟩ := W.c.def_ 13 (d := d__law_bars) rfl
  exact cal_of F sc__law_bars (He.glo_ok X G (W.c.fact 13 (f := .glo "_law_bars") rfl)) (FunD.bindsN (ps := ["pool", "clocks", "signs", "top", "lean"]) F fun _ _ _ _ _ _ us hl => match us, hl with | [_, _, _, _, _], _ => rfl) law__law_bars fun cdv A outer s H E hr => b__law_bars W _ cdv A outer s H E hr
theorem sc__law_plan : FnScope ["pool", "clocks", "states", "top", "n", "bounds", "state", "bars", "edges", "k", "resets", "edge", "ends", "bar", "clock"] ["pool", "clocks", "states", "top"] (defScope s__law_plan) := ⟨rfl, rfl, rfl, by decide +kernel, rfl, by decide +kernel, by decide +kernel⟩
theorem b__law_plan (W : Wd K mg) (f : Addr) (cdv : Value) (A : Around) (outer : List Env) (s : Shared) (H : Hp) (E : XK) (hr : Room 2 (A.deeper (envOfC "_law_plan" (defScope s__law_plan) s.heap.objs.size f cdv))) :
    DSs (cxOf C8.CX0 P w K mg base ["pool", "clocks", "states", "top", "n", "bounds", "state", "bars", "edges", "k", "resets", "edge", "ends", "bar", "clock"] "_law_plan" (defScope s__law_plan) f cdv A outer s H E) (defBody s__law_plan) w__law_plan :=
  have hu := hr.units
  have nd := sc__law_plan.nd
  (dss_cons (ds_set nd (i := 4) rfl (by first | exact Or.inl rfl | exact Or.inr rfl) (de_op d_add de_int (de_call (c__law_draw W) hr (by decide) rfl (da_cons (dv 0) (da_cons (dv 2) da_nil)))) (hs := by with_unfolding_all rfl))
    (dss_cons (ds_if (dt_cmp d_gt (de_call (c__law_draw W) hr (by decide) rfl (da_cons (dv 0) (da_cons de_int da_nil))) de_int (nomark _)) (dss_one (ds_set nd (i := 4) rfl (by first | exact Or.inl rfl | exact Or.inr rfl) (dv 2) (hs := by with_unfolding_all rfl))) dss_nil)
    (dss_cons (ds_set nd (i := 5) rfl (by first | exact Or.inl rfl | exact Or.inr rfl) (de_tup da_nil) (hs := by with_unfolding_all rfl))
    (dss_cons (ds_for (passes_of rfl) rfl (di_range1 rfl (g_range W) (da_cons (dv 4) da_nil)) (dgn 6 nd) (dss_cons (ds_set nd (i := 7) rfl (by first | exact Or.inl rfl | exact Or.inr rfl) (de_call (c__law_bars W) hr (by decide) rfl (da_cons (dv 0) (da_cons (dv 1) (da_cons (de_tup (da_cons de_str (da_cons de_str da_nil))) (da_cons (dv 3) (da_cons de_int da_nil)))))) (hs := by with_unfolding_all rfl))
    (dss_cons (ds_if (dt_cmp (d_eq hu) (dv 6) de_int (nomark _)) (dss_one (ds_set nd (i := 7) rfl (by first | exact Or.inl rfl | exact Or.inr rfl) (de_callTy f_tuple rfl (g_tuple W) bt_tuple (da_cons (de_lc (own := [("bar", 13)]) rfl nd (di_seq (dv 7)) (blkOk_by (by kernel_rfl)) (fun _ _ _ _ _ => (dgn 13 nd)) (fun _ _ _ _ _ => (dts_one (dt_cmp (d_ne hu) (de_slice (dv 13) (do_some de_int) do_none) (de_tup (da_cons de_str (da_cons de_int da_nil))) (nomark _)))) (fun _ _ _ _ _ => (dv 13))) da_nil)) (hs := by with_unfolding_all rfl))) dss_nil)
    (dss_one (ds_set nd (i := 5) rfl (by first | exact Or.inl rfl | exact Or.inr rfl) (de_op d_add (dv 5) (de_tup (da_cons (dv 7) da_nil))) (hs := by with_unfolding_all rfl))))))
    (dss_cons (ds_set nd (i := 8) rfl (by first | exact Or.inl rfl | exact Or.inr rfl) (de_lst da_nil) (hs := by with_unfolding_all rfl))
    (dss_cons (ds_for (passes_of rfl) rfl (di_range1 rfl (g_range W) (da_cons (de_op d_add de_int (de_call (c__law_draw W) hr (by decide) rfl (da_cons (dv 0) (da_cons (de_op d_add (de_op d_mulA de_int (dv 4)) de_int) da_nil)))) da_nil)) (dgn 9 nd) (dss_cons (ds_set nd (i := 10) rfl (by first | exact Or.inl rfl | exact Or.inr rfl) (de_callTy f_tuple rfl (g_tuple W) bt_tuple (da_cons (de_lc (own := [("clock", 14)]) rfl nd (di_range1 rfl (g_range W) (da_cons (dv 1) da_nil)) (blkOk_by (by kernel_rfl)) (fun _ _ _ _ _ => (dgn 14 nd)) (fun _ _ _ _ _ => (dts_one (dt_cmp (d_eq hu) (de_call (c__law_draw W) hr (by decide) rfl (da_cons (dv 0) (da_cons de_int da_nil))) de_int (nomark _)))) (fun _ _ _ _ _ => (dv 14))) da_nil)) (hs := by with_unfolding_all rfl))
    (dss_cons (ds_set nd (i := 11) rfl (by first | exact Or.inl rfl | exact Or.inr rfl) (de_tup (da_cons (de_call (c__law_draw W) hr (by decide) rfl (da_cons (dv 0) (da_cons (dv 4) da_nil))) (da_cons (de_call (c__law_draw W) hr (by decide) rfl (da_cons (dv 0) (da_cons de_int da_nil))) (da_cons (de_call (c__law_bars W) hr (by decide) rfl (da_cons (dv 0) (da_cons (dv 1) (da_cons (de_tup (da_cons de_str (da_cons de_str (da_cons de_str (da_cons de_str da_nil))))) (da_cons (dv 3) (da_cons de_int da_nil)))))) (da_cons (dv 10) (da_cons (de_call (c__law_draw W) hr (by decide) rfl (da_cons (dv 0) (da_cons (dv 4) da_nil))) da_nil)))))) (hs := by with_unfolding_all rfl))
    (dss_cons (ds_if (dt_cmp (d_eq hu) (dv 9) de_int (nomark _)) (dss_one (ds_set nd (i := 11) rfl (by first | exact Or.inl rfl | exact Or.inr rfl) (de_op d_add (de_op d_add (de_tup (da_cons de_int da_nil)) (de_slice (dv 11) (do_some de_int) (do_some de_int))) (de_tup (da_cons (de_op d_sub (dv 4) de_int) da_nil))) (hs := by with_unfolding_all rfl))) dss_nil)
    (dss_one (ds_if (DW.dt (dw_and (dt_cmp (d_notIn hu) (dv 11) (dv 8) rfl) (dw_and1 (dt_cmp (d_lt hu) (de_callB f_len rfl (g_len W) bb_len (da_cons (dv 8) da_nil)) de_int (nomark _))))) (dss_one (ds_expr (de_bm dm_append (dv 8) (da_cons (dv 11) da_nil)))) dss_nil))))))
    (dss_cons (ds_set nd (i := 12) rfl (by first | exact Or.inl rfl | exact Or.inr rfl) (de_callTy f_tuple rfl (g_tuple W) bt_tuple (da_cons (de_lc (own := [("state", 6)]) rfl nd (di_range1 rfl (g_range W) (da_cons (dv 4) da_nil)) (blkOk_by (by kernel_rfl)) (fun _ _ _ _ _ => (dgn 6 nd)) (fun _ _ _ _ _ => (dts_one (dt_cmp (d_eq hu) (de_call (c__law_draw W) hr (by decide) rfl (da_cons (dv 0) (da_cons de_int da_nil))) de_int (nomark _)))) (fun _ _ _ _ _ => (dv 6))) da_nil)) (hs := by with_unfolding_all rfl))
    (dss_cons (ds_if (dt_cmp d_gt (de_call (c__law_draw W) hr (by decide) rfl (da_cons (dv 0) (da_cons de_int da_nil))) de_int (nomark _)) (dss_one (ds_set nd (i := 12) rfl (by first | exact Or.inl rfl | exact Or.inr rfl) (de_tup (da_cons (de_op d_sub (dv 4) de_int) da_nil)) (hs := by with_unfolding_all rfl))) dss_nil)
    (dss_one (ds_ret (de_tup (da_cons (dv 1) (da_cons (dv 5) (da_cons (de_callTy f_tuple rfl (g_tuple W) bt_tuple (da_cons (de_callB (f_sorted hu) rfl (g_sorted W) bb_sorted (da_cons (dv 8) da_nil)) da_nil)) (da_cons (dv 12) da_nil)))))))))))))))
theorem c__law_plan (W : Wd K mg) : Cal P w K mg base 3 "_law_plan" r__law_plan := by
  obtain ⟨h, X, G⟩ := W.ex
  obtain ⟨fd, F⟩ := W.c.def_ 14 (d := d__law_plan) rfl
  exact cal_of F sc__law_plan (He.glo_ok X G (W.c.fact 14 (f := .glo "_law_plan") rfl)) (FunD.bindsN (ps := ["pool", "clocks", "states", "top"]) F fun _ _ _ _ _ _ us hl => match us, hl with | [_, _, _, _], _ => rfl) law__law_plan fun cdv A outer s H E hr => b__law_plan W _ cdv A outer s H E hr
theorem sc__law_shifted : FnScope ["edge", "bars", "clock", "sign", "number"] ["edge"] (defScope s__law_shifted) := ⟨rfl, rfl, rfl, by decide +kernel, rfl, by decide +kernel, by decide +kernel⟩
theorem b__law_shifted (W : Wd K mg) (f : Addr) (cdv : Value) (A : Around) (outer : List Env) (s : Shared) (H : Hp) (E : XK) (hr : Room 0 (A.deeper (envOfC "_law_shifted" (defScope s__law_shifted) s.heap.objs.size f cdv))) :
    DSs (cxOf C8.CX0 P w K mg base ["edge", "bars", "clock", "sign", "number"] "_law_shifted" (defScope s__law_shifted) f cdv A outer s H E) (defBody s__law_shifted) w__law_shifted :=
  have hu := hr.units
  have nd := sc__law_shifted.nd
  (dss_cons (ds_set nd (i := 1) rfl (by first | exact Or.inl rfl | exact Or.inr rfl) (de_callTy f_tuple rfl (g_tuple W) bt_tuple (da_cons (de_lc (own := [("clock", 2), ("sign", 3), ("number", 4)]) rfl nd (di_seq (de_ix (d_ix hu) (dv 0) de_int)) (blkOk_by (by kernel_rfl)) (fun _ _ _ _ _ => (dg_tup rfl (dgs_cons (dgn 2 nd) (dgs_cons (dgn 3 nd) (dgs_cons (dgn 4 nd) dgs_nil))))) (fun _ _ _ _ _ => dts_nil) (fun _ _ _ _ _ => (de_tup (da_cons (de_op d_add (dv 2) de_int) (da_cons (dv 3) (da_cons (dv 4) da_nil)))))) da_nil)) (hs := by with_unfolding_all rfl))
    (dss_one (ds_ret (de_op d_add (de_slice (dv 0) do_none (do_some de_int)) (de_tup (da_cons (dv 1) (da_cons (de_callTy f_tuple rfl (g_tuple W) bt_tuple (da_cons (de_lc (own := [("clock", 2)]) rfl nd (di_seq (de_ix (d_ix hu) (dv 0) de_int)) (blkOk_by (by kernel_rfl)) (fun _ _ _ _ _ => (dgn 2 nd)) (fun _ _ _ _ _ => dts_nil) (fun _ _ _ _ _ => (de_op d_add (dv 2) de_int))) da_nil)) (da_cons (de_ix (d_ix hu) (dv 0) de_int) da_nil))))))))
theorem c__law_shifted (W : Wd K mg) : Cal P w K mg base 1 "_law_shifted" r__law_shifted := by
  obtain ⟨h, X, G⟩ := W.ex
  obtain ⟨fd, F⟩ := W.c.def_ 15 (d := d__law_shifted) rfl
  exact cal_of F sc__law_shifted (He.glo_ok X G (W.c.fact 15 (f := .glo "_law_shifted") rfl)) (FunD.bindsN (ps := ["edge"]) F fun _ _ _ _ _ _ us hl => match us, hl with | [_], _ => rfl) law__law_shifted fun cdv A outer s H E hr => b__law_shifted W _ cdv A outer s H E hr
theorem sc__law_joint : FnScope ["one", "two", "pair", "found", "own", "other", "edge", "last", "there"] ["one", "two", "pair"] (defScope s__law_joint) := ⟨rfl, rfl, rfl, by decide +kernel, rfl, by decide +kernel, by decide +kernel⟩
theorem b__law_joint (W : Wd K mg) (f : Addr) (cdv : Value) (A : Around) (outer : List Env) (s : Shared) (H : Hp) (E : XK) (hr : Room 1 (A.deeper (envOfC "_law_joint" (defScope s__law_joint) s.heap.objs.size f cdv))) :
    DSs (cxOf C8.CX0 P w K mg base ["one", "two", "pair", "found", "own", "other", "edge", "last", "there"] "_law_joint" (defScope s__law_joint) f cdv A outer s H E) (defBody s__law_joint) w__law_joint :=
  have hu := hr.units
  have nd := sc__law_joint.nd
  (dss_cons (ds_set nd (i := 3) rfl (by first | exact Or.inl rfl | exact Or.inr rfl) (de_lst da_nil) (hs := by with_unfolding_all rfl))
    (dss_cons (ds_setLc (i := 4) (own := [("edge", 6)]) rfl nd rfl rfl (sw_true rfl rfl rfl (by kernel_rfl)) (di_seq (de_ix (d_ix hu) (dv 0) de_int)) (blkOk_by (by kernel_rfl)) (fun _ _ _ _ _ => (dgn 6 nd)) (fun _ _ _ _ _ => dts_nil) (fun _ _ _ _ _ => (de_ix (d_ix hu) (dv 6) de_int)))
    (dss_cons (ds_setLc (i := 5) (own := [("edge", 6)]) rfl nd rfl rfl (sw_true rfl rfl rfl (by kernel_rfl)) (di_seq (de_ix (d_ix hu) (dv 1) de_int)) (blkOk_by (by kernel_rfl)) (fun _ _ _ _ _ => (dgn 6 nd)) (fun _ _ _ _ _ => dts_nil) (fun _ _ _ _ _ => (de_ix (d_ix hu) (dv 6) de_int)))
    (dss_cons (ds_for (passes_of rfl) rfl (di_seq (de_ix (d_ix hu) (dv 0) de_int)) (dgn 6 nd) (dss_cons (ds_if (DW.dt (dw_and (dt_cmp (d_eq hu) (de_ix (d_ix hu) (dv 6) de_int) (de_ix (d_ix hu) (dv 2) de_int) (nomark _)) (dw_and1 (dt_cmp (d_notIn hu) (de_ix (d_ix hu) (dv 6) de_int) (dv 5) rfl)))) (dss_one (ds_expr (de_bm dm_append (dv 3) (da_cons (de_tup (da_cons (de_ix (d_ix hu) (dv 6) de_int) (da_cons (de_ix (d_ix hu) (dv 6) de_int) (da_cons (de_ix (d_ix hu) (dv 6) de_int) (da_cons (de_tup (da_cons (de_ix (d_ix hu) (dv 6) de_int) (da_cons (de_ix (d_ix hu) (dv 2) de_int) da_nil))) da_nil))))) da_nil)))) dss_nil)
    (dss_one (ds_for (passes_of rfl) rfl (di_seq (de_ix (d_ix hu) (dv 1) de_int)) (dgn 7 nd) (dss_one (ds_if (DW.dt (dw_and (dt_cmp (d_eq hu) (de_ix (d_ix hu) (dv 6) de_int) (de_ix (d_ix hu) (dv 2) de_int) (nomark _)) (dw_and (dt_cmp (d_eq hu) (de_ix (d_ix hu) (dv 7) de_int) (de_ix (d_ix hu) (dv 2) de_int) (nomark _)) (dw_and1 (dt_cmp (d_eq hu) (de_ix (d_ix hu) (dv 6) de_int) (de_ix (d_ix hu) (dv 7) de_int) (nomark _)))))) (dss_cons (ds_set nd (i := 8) rfl (by first | exact Or.inl rfl | exact Or.inr rfl) (de_call (c__law_shifted W) hr (by decide) rfl (da_cons (dv 7) da_nil)) (hs := by with_unfolding_all rfl))
    (dss_one (ds_expr (de_bm dm_append (dv 3) (da_cons (de_tup (da_cons (de_ix (d_ix hu) (dv 6) de_int) (da_cons (de_callTy f_tuple rfl (g_tuple W) bt_tuple (da_cons (de_callB (f_sortedT hu) rfl (g_sorted W) bb_sorted (da_cons (de_op d_add (de_ix (d_ix hu) (dv 6) de_int) (de_ix (d_ix hu) (dv 8) de_int)) da_nil)) da_nil)) (da_cons (de_op d_add (de_ix (d_ix hu) (dv 6) de_int) (de_ix (d_ix hu) (dv 8) de_int)) (da_cons (de_tup (da_cons (de_ix (d_ix hu) (dv 6) de_int) (da_cons (de_ix (d_ix hu) (dv 7) de_int) da_nil))) da_nil))))) da_nil))))) dss_nil))))))
    (dss_cons (ds_for (passes_of rfl) rfl (di_seq (de_ix (d_ix hu) (dv 1) de_int)) (dgn 7 nd) (dss_one (ds_if (DW.dt (dw_and (dt_cmp (d_eq hu) (de_ix (d_ix hu) (dv 7) de_int) (de_ix (d_ix hu) (dv 2) de_int) (nomark _)) (dw_and1 (dt_cmp (d_notIn hu) (de_ix (d_ix hu) (dv 7) de_int) (dv 4) rfl)))) (dss_cons (ds_set nd (i := 8) rfl (by first | exact Or.inl rfl | exact Or.inr rfl) (de_call (c__law_shifted W) hr (by decide) rfl (da_cons (dv 7) da_nil)) (hs := by with_unfolding_all rfl))
    (dss_one (ds_expr (de_bm dm_append (dv 3) (da_cons (de_tup (da_cons (de_ix (d_ix hu) (dv 7) de_int) (da_cons (de_ix (d_ix hu) (dv 8) de_int) (da_cons (de_ix (d_ix hu) (dv 8) de_int) (da_cons (de_tup (da_cons (de_ix (d_ix hu) (dv 2) de_int) (da_cons (de_ix (d_ix hu) (dv 7) de_int) da_nil))) da_nil))))) da_nil))))) dss_nil)))
    (dss_one (ds_ret (de_callB (f_sorted hu) rfl (g_sorted W) bb_sorted (da_cons (dv 3) da_nil)))))))))
theorem c__law_joint (W : Wd K mg) : Cal P w K mg base 2 "_law_joint" r__law_joint := by
  obtain ⟨h, X, G⟩ := W.ex
  obtain ⟨fd, F⟩ := W.c.def_ 16 (d := d__law_joint) rfl
  exact cal_of F sc__law_joint (He.glo_ok X G (W.c.fact 16 (f := .glo "_law_joint") rfl)) (FunD.bindsN (ps := ["one", "two", "pair"]) F fun _ _ _ _ _ _ us hl => match us, hl with | [_, _, _], _ => rfl) law__law_joint fun cdv A outer s H E hr => b__law_joint W _ cdv A outer s H E hr
theorem sc__law_joined : FnScope ["one", "two", "order", "edges", "at", "deed", "bars", "resets", "pair", "edge", "bounds", "a", "b", "ends", "clock", "sign", "number", "k"] ["one", "two"] (defScope s__law_joined) := ⟨rfl, rfl, rfl, by decide +kernel, rfl, by decide +kernel, by decide +kernel⟩
theorem b__law_joined (W : Wd K mg) (f : Addr) (cdv : Value) (A : Around) (outer : List Env) (s : Shared) (H : Hp) (E : XK) (hr : Room 2 (A.deeper (envOfC "_law_joined" (defScope s__law_joined) s.heap.objs.size f cdv))) :
    DSs (cxOf C8.CX0 P w K mg base ["one", "two", "order", "edges", "at", "deed", "bars", "resets", "pair", "edge", "bounds", "a", "b", "ends", "clock", "sign", "number", "k"] "_law_joined" (defScope s__law_joined) f cdv A outer s H E) (defBody s__law_joined) w__law_joined :=
  have hu := hr.units
  have nd := sc__law_joined.nd
  (dss_cons (ds_if (dt_cmp d_gt (de_op d_add (de_ix (d_ix hu) (dv 0) de_int) (de_ix (d_ix hu) (dv 1) de_int)) de_int (nomark _)) (dss_one (ds_ret de_non)) dss_nil)
    (dss_cons (ds_set nd (i := 2) rfl (by first | exact Or.inl rfl | exact Or.inr rfl) (de_lst (da_cons (de_tup (da_cons de_int (da_cons de_int da_nil))) da_nil)) (hs := by with_unfolding_all rfl))
    (dss_cons (ds_set nd (i := 3) rfl (by first | exact Or.inl rfl | exact Or.inr rfl) (de_lst da_nil) (hs := by with_unfolding_all rfl))
    (dss_cons (ds_for (passes_of rfl) rfl (di_range1 rfl (g_range W) (da_cons de_int da_nil)) (dgn 4 nd) (dss_one (ds_if (dt_cmp (d_lt hu) (dv 4) (de_callB f_len rfl (g_len W) bb_len (da_cons (dv 2) da_nil)) (nomark _)) (dss_one (ds_for (passes_of rfl) rfl (di_seq (de_call (c__law_joint W) hr (by decide) rfl (da_cons (dv 0) (da_cons (dv 1) (da_cons (de_ix (d_ix hu) (dv 2) (dv 4)) da_nil))))) (dg_tup rfl (dgs_cons (dgn 5 nd) (dgs_cons (dgn 6 nd) (dgs_cons (dgn 7 nd) (dgs_cons (dgn 8 nd) dgs_nil))))) (dss_cons (ds_if (dt_cmp (d_notIn hu) (dv 8) (dv 2) rfl) (dss_one (ds_expr (de_bm dm_append (dv 2) (da_cons (dv 8) da_nil)))) dss_nil)
    (dss_cons (ds_set nd (i := 9) rfl (by first | exact Or.inl rfl | exact Or.inr rfl) (de_tup (da_cons (dv 4) (da_cons (dv 5) (da_cons (dv 6) (da_cons (dv 7) (da_cons (de_bm (dm_index hu) (dv 2) (da_cons (dv 8) da_nil)) da_nil)))))) (hs := by with_unfolding_all rfl))
    (dss_one (ds_if (dt_cmp (d_notIn hu) (dv 9) (dv 3) rfl) (dss_one (ds_expr (de_bm dm_append (dv 3) (da_cons (dv 9) da_nil)))) dss_nil)))))) dss_nil)))
    (dss_cons (ds_if (DW.dt (dw_or (dt_cmp d_gt (de_callB f_len rfl (g_len W) bb_len (da_cons (dv 2) da_nil)) de_int (nomark _)) (dw_or1 (dt_cmp d_gt (de_callB f_len rfl (g_len W) bb_len (da_cons (dv 3) da_nil)) de_int (nomark _))))) (dss_one (ds_ret de_non)) dss_nil)
    (dss_cons (ds_set nd (i := 10) rfl (by first | exact Or.inl rfl | exact Or.inr rfl) (de_tup da_nil) (hs := by with_unfolding_all rfl))
    (dss_cons (ds_for (passes_of rfl) rfl (di_seq (dv 2)) (dg_tup rfl (dgs_cons (dgn 11 nd) (dgs_cons (dgn 12 nd) dgs_nil))) (dss_one (ds_set nd (i := 10) rfl (by first | exact Or.inl rfl | exact Or.inr rfl) (de_op d_add (dv 10) (de_tup (da_cons (de_callTy f_tuple rfl (g_tuple W) bt_tuple (da_cons (de_callB (f_sortedT hu) rfl (g_sorted W) bb_sorted (da_cons (de_op d_add (de_ix (d_ix hu) (de_ix (d_ix hu) (dv 0) de_int) (dv 11)) (de_callTy f_tuple rfl (g_tuple W) bt_tuple (da_cons (de_lc (own := [("clock", 14), ("sign", 15), ("number", 16)]) rfl nd (di_seq (de_ix (d_ix hu) (de_ix (d_ix hu) (dv 1) de_int) (dv 12))) (blkOk_by (by kernel_rfl)) (fun _ _ _ _ _ => (dg_tup rfl (dgs_cons (dgn 14 nd) (dgs_cons (dgn 15 nd) (dgs_cons (dgn 16 nd) dgs_nil))))) (fun _ _ _ _ _ => dts_nil) (fun _ _ _ _ _ => (de_tup (da_cons (de_op d_add (dv 14) de_int) (da_cons (dv 15) (da_cons (dv 16) da_nil)))))) da_nil))) da_nil)) da_nil)) da_nil))) (hs := by with_unfolding_all rfl))))
    (dss_cons (ds_set nd (i := 13) rfl (by first | exact Or.inl rfl | exact Or.inr rfl) (de_callTy f_tuple rfl (g_tuple W) bt_tuple (da_cons (de_lc (own := [("k", 17)]) rfl nd (di_range1 rfl (g_range W) (da_cons (de_callB f_len rfl (g_len W) bb_len (da_cons (dv 2) da_nil)) da_nil)) (blkOk_by (by kernel_rfl)) (fun _ _ _ _ _ => (dgn 17 nd)) (fun _ _ _ _ _ => (dts_one (DW.dt (dw_and (dt_cmp (d_in hu) (de_ix (d_ix hu) (de_ix (d_ix hu) (dv 2) (dv 17)) de_int) (de_ix (d_ix hu) (dv 0) de_int) rfl) (dw_and1 (dt_cmp (d_in hu) (de_ix (d_ix hu) (de_ix (d_ix hu) (dv 2) (dv 17)) de_int) (de_ix (d_ix hu) (dv 1) de_int) rfl)))))) (fun _ _ _ _ _ => (dv 17))) da_nil)) (hs := by with_unfolding_all rfl))
    (dss_one (ds_ret (de_tup (da_cons de_int (da_cons (dv 10) (da_cons (de_callTy f_tuple rfl (g_tuple W) bt_tuple (da_cons (de_callB (f_sorted hu) rfl (g_sorted W) bb_sorted (da_cons (dv 3) da_nil)) da_nil)) (da_cons (dv 13) da_nil)))))))))))))))
theorem c__law_joined (W : Wd K mg) : Cal P w K mg base 3 "_law_joined" r__law_joined := by
  obtain ⟨h, X, G⟩ := W.ex
  obtain ⟨fd, F⟩ := W.c.def_ 17 (d := d__law_joined) rfl
  exact cal_of F sc__law_joined (He.glo_ok X G (W.c.fact 17 (f := .glo "_law_joined") rfl)) (FunD.bindsN (ps := ["one", "two"]) F fun _ _ _ _ _ _ us hl => match us, hl with | [_, _], _ => rfl) law__law_joined fun cdv A outer s H E hr => b__law_joined W _ cdv A outer s H E hr
theorem sc__law_told : FnScope ["one", "two", "e"] ["one", "two"] (defScope s__law_told) := ⟨rfl, rfl, rfl, by decide +kernel, rfl, by decide +kernel, by decide +kernel⟩
theorem b__law_told (W : Wd K mg) (f : Addr) (cdv : Value) (A : Around) (outer : List Env) (s : Shared) (H : Hp) (E : XK) (hr : Room 4 (A.deeper (envOfC "_law_told" (defScope s__law_told) s.heap.objs.size f cdv))) :
    DSs (cxOf C8.CX0 P w K mg base ["one", "two", "e"] "_law_told" (defScope s__law_told) f cdv A outer s H E) (defBody s__law_told) w__law_told :=
  have hu := hr.units
  have nd := sc__law_told.nd
  (dss_cons (ds_tryN (i := 2) (c_joined_plan W) hr (by decide) (tk_TooMany_ClockError W) rfl rfl nd rfl rfl (by first | exact Or.inl rfl | exact Or.inr (Or.inl rfl)) rfl rfl rfl rfl (fun _ _ => (da_cons (dv 0) (da_cons (dv 1) da_nil))))
    (dss_one (ds_ret de_int)))
theorem c__law_told (W : Wd K mg) : Cal P w K mg base 5 "_law_told" r__law_told := by
  obtain ⟨h, X, G⟩ := W.ex
  obtain ⟨fd, F⟩ := W.c.def_ 18 (d := d__law_told) rfl
  exact cal_of F sc__law_told (He.glo_ok X G (W.c.fact 18 (f := .glo "_law_told") rfl)) (FunD.bindsN (ps := ["one", "two"]) F fun _ _ _ _ _ _ us hl => match us, hl with | [_, _], _ => rfl) law__law_told fun cdv A outer s H E hr => b__law_told W _ cdv A outer s H E hr
theorem sc__law_turned : FnScope ["pool", "n", "left", "found", "k"] ["pool", "n"] (defScope s__law_turned) := ⟨rfl, rfl, rfl, by decide +kernel, rfl, by decide +kernel, by decide +kernel⟩
theorem b__law_turned (W : Wd K mg) (f : Addr) (cdv : Value) (A : Around) (outer : List Env) (s : Shared) (H : Hp) (E : XK) (hr : Room 1 (A.deeper (envOfC "_law_turned" (defScope s__law_turned) s.heap.objs.size f cdv))) :
    DSs (cxOf C8.CX0 P w K mg base ["pool", "n", "left", "found", "k"] "_law_turned" (defScope s__law_turned) f cdv A outer s H E) (defBody s__law_turned) w__law_turned :=
  have hu := hr.units
  have nd := sc__law_turned.nd
  (dss_cons (ds_set nd (i := 2) rfl (by first | exact Or.inl rfl | exact Or.inr rfl) (de_callTy (f_listR rfl) rfl (g_list W) bt_list (da_cons (de_callTy f_range1 rfl (g_range W) bt_range (da_cons (dv 1) da_nil)) da_nil)) (hs := by with_unfolding_all rfl))
    (dss_cons (ds_set nd (i := 3) rfl (by first | exact Or.inl rfl | exact Or.inr rfl) (de_tup da_nil) (hs := by with_unfolding_all rfl))
    (dss_cons (ds_for (passes_of rfl) rfl (di_range1 rfl (g_range W) (da_cons (dv 1) da_nil)) (dgn 4 nd) (dss_one (ds_set nd (i := 3) rfl (by first | exact Or.inl rfl | exact Or.inr rfl) (de_op d_add (dv 3) (de_tup (da_cons (de_bm dm_pop (dv 2) (da_cons (de_call (c__law_draw W) hr (by decide) rfl (da_cons (dv 0) (da_cons (de_callB f_len rfl (g_len W) bb_len (da_cons (dv 2) da_nil)) da_nil))) da_nil)) da_nil))) (hs := by with_unfolding_all rfl))))
    (dss_one (ds_ret (dv 3))))))
theorem c__law_turned (W : Wd K mg) : Cal P w K mg base 2 "_law_turned" r__law_turned := by
  obtain ⟨h, X, G⟩ := W.ex
  obtain ⟨fd, F⟩ := W.c.def_ 19 (d := d__law_turned) rfl
  exact cal_of F sc__law_turned (He.glo_ok X G (W.c.fact 19 (f := .glo "_law_turned") rfl)) (FunD.bindsN (ps := ["pool", "n"]) F fun _ _ _ _ _ _ us hl => match us, hl with | [_, _], _ => rfl) law__law_turned fun cdv A outer s H E hr => b__law_turned W _ cdv A outer s H E hr
theorem sc_law : FnScope ["script", "pool", "turn", "one", "two", "n", "names", "bounds", "edges", "place", "state", "edge"] ["script"] (defScope s_law) := ⟨rfl, rfl, rfl, by decide +kernel, rfl, by decide +kernel, by decide +kernel⟩
theorem b_law (W : Wd K mg) (f : Addr) (cdv : Value) (A : Around) (outer : List Env) (s : Shared) (H : Hp) (E : XK) (hr : Room 8 (A.deeper (envOfC "law" (defScope s_law) s.heap.objs.size f cdv))) :
    DSs (cxOf C8.CX0 P w K mg base ["script", "pool", "turn", "one", "two", "n", "names", "bounds", "edges", "place", "state", "edge"] "law" (defScope s_law) f cdv A outer s H E) (defBody s_law) w_law :=
  have hu := hr.units
  have nd := sc_law.nd
  (dss_cons (ds_set nd (i := 1) rfl (by first | exact Or.inl rfl | exact Or.inr rfl) (de_call (c__law_pool W) hr (by decide) rfl (da_cons (dv 0) da_nil)) (hs := by with_unfolding_all rfl))
    (dss_cons (ds_for (passes_of rfl) rfl (di_range1 rfl (g_range W) (da_cons de_int da_nil)) (dgn 2 nd) (dss_cons (ds_set nd (i := 3) rfl (by first | exact Or.inl rfl | exact Or.inr rfl) (de_call (c__law_plan W) hr (by decide) rfl (da_cons (dv 1) (da_cons (de_op d_add de_int (de_callTy f_int rfl (g_int W) bt_int (da_cons (de_cmp (d_eq hu) (de_call (c__law_draw W) hr (by decide) rfl (da_cons (dv 1) (da_cons de_int da_nil))) de_int (nomark _)) da_nil))) (da_cons de_int (da_cons de_int da_nil))))) (hs := by with_unfolding_all rfl))
    (dss_cons (ds_set nd (i := 4) rfl (by first | exact Or.inl rfl | exact Or.inr rfl) (de_call (c__law_plan W) hr (by decide) rfl (da_cons (dv 1) (da_cons de_int (da_cons (de_op d_add de_int (de_callTy f_int rfl (g_int W) bt_int (da_cons (de_cmp (d_eq hu) (de_call (c__law_draw W) hr (by decide) rfl (da_cons (dv 1) (da_cons de_int da_nil))) de_int (nomark _)) da_nil))) (da_cons de_int da_nil))))) (hs := by with_unfolding_all rfl))
    (dss_cons (ds_if (dt_not (dt_val (de_call (c__law_equal W) hr (by decide) rfl (da_cons (de_call (c__law_told W) hr (by decide) rfl (da_cons (dv 3) (da_cons (dv 4) da_nil))) (da_cons (de_call (c__law_joined W) hr (by decide) rfl (da_cons (dv 3) (da_cons (dv 4) da_nil))) da_nil))))) (dss_one (ds_ret de_bl)) dss_nil)
    (dss_cons (ds_set nd (i := 5) rfl (by first | exact Or.inl rfl | exact Or.inr rfl) (de_callB f_len rfl (g_len W) bb_len (da_cons (de_ix (d_ix hu) (dv 4) de_int) da_nil)) (hs := by with_unfolding_all rfl))
    (dss_idx2 (i := 6) nd rfl (by first | exact Or.inl rfl | exact Or.inr rfl) (da_cons de_int da_nil) (de_callTy f_tuple rfl (g_tuple W) bt_tuple (da_cons (de_lc (own := [("place", 9)]) rfl nd (di_seq (de_call (c__law_turned W) hr (by decide) rfl (da_cons (dv 1) (da_cons (de_op d_sub (dv 5) de_int) da_nil)))) (blkOk_by (by kernel_rfl)) (fun _ _ _ _ _ => (dgn 9 nd)) (fun _ _ _ _ _ => dts_nil) (fun _ _ _ _ _ => (de_op d_add de_int (dv 9)))) da_nil)) (fun a is => (dsp_set nd (i := 7) rfl (by first | exact Or.inl rfl | exact Or.inr rfl) (dep_callTy f_tuple rfl (g_tuple W) bt_tuple (dep_lc (own := [("state", 10)]) rfl nd (di_range1 rfl (g_range W) (da_cons (dv 5) da_nil)) (blkOk_by (by kernel_rfl)) (fun _ _ _ _ _ => (dgn 10 nd)) (fun _ _ _ _ _ => dts_nil) (fun _ _ _ _ _ => (dep_ix (d_ix hu) (de_ix (d_ix hu) (dv 4) de_int) (dep_idx (i := 6) (j := 10) rfl))))) (hs := by with_unfolding_all rfl)))
    (dss_cons (ds_set nd (i := 8) rfl (by first | exact Or.inl rfl | exact Or.inr rfl) (de_callB (f_sorted hu) rfl (g_sorted W) bb_sorted (da_cons (de_lc (own := [("edge", 11)]) rfl nd (di_seq (de_ix (d_ix hu) (dv 4) de_int)) (blkOk_by (by kernel_rfl)) (fun _ _ _ _ _ => (dgn 11 nd)) (fun _ _ _ _ _ => dts_nil) (fun _ _ _ _ _ => (de_op d_add (de_op d_add (de_tup (da_cons (de_ix (d_ix hu) (dv 6) (de_ix (d_ix hu) (dv 11) de_int)) da_nil)) (de_slice (dv 11) (do_some de_int) (do_some de_int))) (de_tup (da_cons (de_ix (d_ix hu) (dv 6) (de_ix (d_ix hu) (dv 11) de_int)) da_nil))))) da_nil)) (hs := by with_unfolding_all rfl))
    (dss_cons (ds_if (dt_not (dt_val (de_call (c__law_equal W) hr (by decide) rfl (da_cons (de_call (c_with_order W) hr (by decide) rfl (da_cons (dv 4) (da_cons (dv 6) da_nil))) (da_cons (de_tup (da_cons de_int (da_cons (dv 7) (da_cons (de_callTy f_tuple rfl (g_tuple W) bt_tuple (da_cons (dv 8) da_nil)) (da_cons (de_callTy f_tuple rfl (g_tuple W) bt_tuple (da_cons (de_callB (f_sorted hu) rfl (g_sorted W) bb_sorted (da_cons (de_lc (own := [("state", 10)]) rfl nd (di_seq (de_ix (d_ix hu) (dv 4) de_int)) (blkOk_by (by kernel_rfl)) (fun _ _ _ _ _ => (dgn 10 nd)) (fun _ _ _ _ _ => dts_nil) (fun _ _ _ _ _ => (de_ix (d_ix hu) (dv 6) (dv 10)))) da_nil)) da_nil)) da_nil))))) da_nil))))) (dss_one (ds_ret de_bl)) dss_nil)
    (dss_one (ds_if (dt_not (dt_val (de_call (c__law_equal W) hr (by decide) rfl (da_cons (de_call (c_with_one_clock_more W) hr (by decide) rfl (da_cons (dv 4) da_nil)) (da_cons (de_op d_add (de_tup (da_cons de_int da_nil)) (de_slice (dv 4) (do_some de_int) do_none)) da_nil))))) (dss_one (ds_ret de_bl)) dss_nil))))
    (hs := by with_unfolding_all rfl)))))))
    (dss_one (ds_ret de_bl))))
theorem c_law (W : Wd K mg) : Cal P w K mg base 9 "law" r_law := by
  obtain ⟨h, X, G⟩ := W.ex
  obtain ⟨fd, F⟩ := W.c.def_ 20 (d := d_law) rfl
  exact cal_of F sc_law (He.glo_ok X G (W.c.fact 20 (f := .glo "law") rfl)) (FunD.bindsN (ps := ["script"]) F fun _ _ _ _ _ _ us hl => match us, hl with | [_], _ => rfl) law_law fun cdv A outer s H E hr => b_law W _ cdv A outer s H E hr
end
end K31

set_option maxHeartbeats 0
namespace K31
open PySem PySem.Spec PyProof.Rows L2 MP HD
theorem rels_ints {K : PySem.W.Frag} {H : Hp} : ∀ ns : List Int, RelDs K H (ns.map D.int) (ns.map V.int)
  | [] => .nil
  | n :: ns => .cons (.int n) (rels_ints ns)
theorem fl_of {K : PySem.W.Frag} {H : Hp} {a : Addr} {xs : List V} (o : Only H) (h : SqL K H a xs) : FlAt K H a xs := by
  rcases h with (h | h) | h
  · rcases o a with e | ⟨u, ys, e⟩
    · rw [e] at h; cases h
    · rw [e] at h; cases h
  · exact .inl h
  · exact .inr h
theorem law_start {P : Program} {w : World} {K : PySem.W.Frag} {H : Hp} {a : Addr} {ns : List Int} (hl : ns.length ≤ 63) (o : Only H) (h : SqL K H a (ns.map V.int)) : lSp P w K r_law [.ref a] H (fun v _ => v = .bl true) fun _ _ _ => False :=
  ⟨[.fl (ns.map .int)], fun _ => none, fun d _ => d = .bl true, .cons (.fl (fl_of o h) (rels_ints ns)) .nil, fun _ _ e => (by cases e), ⟨⟨ns, rfl, hl⟩, fun _ => rfl⟩, fun v d H' M' _ _ r q => by subst q; cases r; rfl⟩
theorem law_facts {P : Program} {w : World} {K : PySem.W.Frag} {h : Heap} {mg : Str → Option Value} {f : Addr} (X : K.In h) (G : h.Ns mainGlobals mg) (hfa : mg ("law" : Str) = some (.ref f)) (c : He.SaysD fa fn K) (ct : HD.exT K = true) :
    ∃ fd : FuncData, (∀ (s : Shared) (v : Value), BindsTo s fd ⟨[v], []⟩ [("script", v)]) ∧ ∀ base : Heap, K.In base → base.Ns mainGlobals mg → FnOk P w K mg base C8.CX0 9 f fd ["script"] (lSp P w K r_law) := by
  have W : Wd K mg := ⟨⟨h, X, G⟩, c, ct⟩
  obtain ⟨fd, F⟩ := c.def_ 20 (d := d_law) rfl
  have e := hfa.symm.trans (He.glo_ok X G (c.fact 20 (f := .glo "law") rfl))
  cases e
  have b := FunD.bindsA (ps := ["script"]) F fun _ _ _ _ _ _ us hl => match us, hl with | [_], _ => rfl
  exact ⟨fd, fun s v => b s [v] rfl, fun base _ _ => fnok F sc_law law_law fun cdv A outer s H E hr => b_law W _ cdv A outer s H E hr⟩
end K31
open PySem PySem.W PySem.Calls PyProof.Rows
theorem PySem.Challenge.cw_clockways_k31_plans_joined_holds : PySem.Challenge.rw_clockways_k31_plans_joined.Holds := by
  w_on; o_law
  refine HandSHeadRun.head_any (r := OpenLaw.row PySem.Challenge.rw_clockways_k31_plans_joined) (q := view (OpenLaw.row PySem.Challenge.rw_clockways_k31_plans_joined).prog [29]) (H := HD.hk) (ob := HD.ob) (M := 4000) (loose := HD.loose) (d := HandSHeadRun.topDef (OpenLaw.row PySem.Challenge.rw_clockways_k31_plans_joined).prog 29) (kwd := []) HD.ob_eq
    (by kernel_rfl) (fun s => by kernel_rfl) HD.run (by kernel_rfl) (by kernel_rfl) (by kernel_rfl) (by rfl) (by first | assumption | decide +kernel) (by decide +kernel) ⟨rfl, rfl, rfl, rfl, rfl, by decide +kernel⟩ ?hw ?hc
  case hw => w_witness2
  case hc =>
    refine L2.walk_ofE (l := PySem.Challenge.rw_clockways_k31_plans_joined) (n := 63) (k := 9) (x := "script") (CX := C8.CX0) rfl (by decide) (by kernel_rfl) ⟨rfl, by decide, by decide⟩ ?F (fun _ _ _ _ z => z)
    intro w mg fa h Y G hmg0
    obtain ⟨K, KX, c⟩ := Y
    have hmg : mg ("law" : PySem.Str) = some (.ref fa) := by
      have e : (HandSHeadRun.topDef (OpenLaw.row PySem.Challenge.rw_clockways_k31_plans_joined).prog 29).name = ("law" : PySem.Str) := by kernel_rfl
      rw [← e]
      exact hmg0
    obtain ⟨fd, hb, hF⟩ := K31.law_facts (P := (PySem.Challenge.rw_clockways_k31_plans_joined).prog) (w := w) KX G hmg c.t.d c.more
    exact ⟨K, fd, MP.lSp _ w K K31.r_law, KX, hb, fun H a ns hl o hS => K31.law_start hl o hS, hF⟩
