import PyProof.Rows.All
import Wide.All
import OpenK.AllK
import Wide.FinOn
import HandS.ForMost
import HandS.Deep
import HandS.IsInst
import HandS.Style
import HandS.TupAny
import HandS.TupMul
import HandS.Flow
import HandS.Defaults
import HandS.Zip
import KE.SortData
import KE.DataMinMax
import KE.LtData
import KE.KDictKeyed
import KE.DataEq
import KE.DataCmp
import KE.DataFind
import HandS.SortKw
import HandS.Dict
import HandS.TupLen
import HandS.WordsDict
import HandS.Codes
import HandS.DictComp
import KE.KStateDown
import HandS.Base
import HandS.Call
import HandS.Ends
import HandS.More
import HandS.Words
import HandS.WordsExc
import HandS.Head0
import HandS.Head1
import HandS.Head2
import HandS.HeadEnd
import HandS.HeadHook1
import HandS.HeadHook2
import PySem.Challenge.RW_clockways_k05_all_regions_listed
set_option Elab.async false
set_option linter.all false
set_option maxRecDepth 100000
set_option maxHeartbeats 4000000
/-! MP: data over the hand layer. -/
namespace MP
open PySem PySem.Spec PyProof.Rows L2

/-- a value as data: tuples by what they hold, other objects by where they stand -/
inductive D where
  | non | bl (b : Bool) | int (i : Int) | str (x : Str) | tup (xs : List D) | ref (a : Addr) | ty (n : String)
  /-- a list that nobody changes (the script) -/
  | fl (xs : List D)
instance : Inhabited D := ⟨.non⟩

/-- an object that can change, by what it holds -/
inductive MO where
  | lst (xs : List D)
  | dic (kvs : List (D × D))
  | ins (C : Addr) (fs : List (Str × D))
  | pool (r c : Addr) (n : Nat)
  | sub (p : Addr)
abbrev Mem := Addr → Option MO
def mupd (M : Mem) (a : Addr) (o : MO) : Mem := fun b => if b = a then some o else M b
theorem mupd_same {M : Mem} {a : Addr} {o : MO} : mupd M a o a = some o := by unfold mupd; rw [if_pos rfl]
theorem mupd_ne {M : Mem} {a b : Addr} {o : MO} (h : b ≠ a) : mupd M a o b = M b := by unfold mupd; rw [if_neg h]
theorem mupd_mupd {M : Mem} {a : Addr} {o u : MO} : mupd (mupd M a o) a u = mupd M a u := by
  funext b; unfold mupd; split <;> rfl

/-! ### relations to the layer's values and heaps -/
def TupAt (K : PySem.W.Frag) (H : Hp) (a : Addr) (xs : List V) : Prop :=
  H a = some (.tup xs) ∨
    ∃ (o : Obj) (its : Array Value) (n : Nat), K.lookup a = some o ∧ o.cls = .type "tuple" ∧ o.data = .seq its n ∧ its.size ≤ sizeLine ∧ Vals xs its.toList
theorem TupAt.sq {K : PySem.W.Frag} {H : Hp} {a : Addr} {xs : List V} (h : TupAt K H a xs) : SqT K H a xs := by
  rcases h with h | h
  · exact .inl (.inl h)
  · exact .inr h
def FlAt (K : PySem.W.Frag) (H : Hp) (a : Addr) (xs : List V) : Prop :=
  (∃ o, H a = some (.frz o (.lst xs))) ∨
    ∃ (o : Obj) (its : Array Value) (n : Nat), K.lookup a = some o ∧ o.cls = .type "list" ∧ o.dict = none ∧ o.data = .seq its n ∧ its.size ≤ sizeLine ∧ Vals xs its.toList
theorem FlAt.sq {K : PySem.W.Frag} {H : Hp} {a : Addr} {xs : List V} (h : FlAt K H a xs) : SqL K H a xs := by
  rcases h with h | h
  · exact .inl (.inr h)
  · exact .inr h
mutual
inductive RelD (K : PySem.W.Frag) (H : Hp) : D → V → Prop
  | non : RelD K H .non .non
  | bl (b : Bool) : RelD K H (.bl b) (.bl b)
  | int (i : Int) : RelD K H (.int i) (.int i)
  | str (x : Str) : RelD K H (.str x) (.str x)
  | tup {a : Addr} {ds : List D} {xs : List V} : TupAt K H a xs → RelDs K H ds xs → RelD K H (.tup ds) (.ref a)
  | ref (a : Addr) : RelD K H (.ref a) (.ref a)
  | ty (n : String) : RelD K H (.ty n) (.ty n)
  | fl {a : Addr} {ds : List D} {xs : List V} : FlAt K H a xs → RelDs K H ds xs → RelD K H (.fl ds) (.ref a)
inductive RelDs (K : PySem.W.Frag) (H : Hp) : List D → List V → Prop
  | nil : RelDs K H [] []
  | cons {d : D} {v : V} {ds : List D} {vs : List V} : RelD K H d v → RelDs K H ds vs → RelDs K H (d :: ds) (v :: vs)
end
section
variable {K : PySem.W.Frag} {H H' : Hp}
theorem RelDs.length : ∀ {ds : List D} {vs : List V}, RelDs K H ds vs → ds.length = vs.length
  | _, _, .nil => rfl
  | _, _, .cons _ t => by rw [List.length_cons, List.length_cons, RelDs.length t]
theorem RelDs.get : ∀ {ds : List D} {vs : List V} {i : Nat} {d : D}, RelDs K H ds vs → ds[i]? = some d → ∃ v, vs[i]? = some v ∧ RelD K H d v
  | _, _, _, _, .nil, e => by simp at e
  | _, _, 0, _, .cons r _, e => by simp at e; subst e; exact ⟨_, rfl, r⟩
  | _, _, i + 1, d, .cons _ t, e => by
    obtain ⟨u, h1, h2⟩ := RelDs.get (i := i) (d := d) t (by simpa using e)
    exact ⟨u, by simpa using h1, h2⟩
theorem RelDs.getV : ∀ {ds : List D} {vs : List V} {i : Nat} {v : V}, RelDs K H ds vs → vs[i]? = some v → ∃ d, ds[i]? = some d ∧ RelD K H d v
  | _, _, _, _, .nil, e => by simp at e
  | _, _, 0, _, .cons r _, e => by simp at e; subst e; exact ⟨_, rfl, r⟩
  | _, _, i + 1, d, .cons _ t, e => by
    obtain ⟨u, h1, h2⟩ := RelDs.getV (i := i) (v := d) t (by simpa using e)
    exact ⟨u, by simpa using h1, h2⟩
theorem RelDs.append : ∀ {ds es : List D} {vs ws : List V}, RelDs K H ds vs → RelDs K H es ws → RelDs K H (ds ++ es) (vs ++ ws)
  | _, _, _, _, .nil, s => s
  | _, _, _, _, .cons r t, s => .cons r (RelDs.append t s)
theorem RelDs.take : ∀ {ds : List D} {vs : List V} (n : Nat), RelDs K H ds vs → RelDs K H (ds.take n) (vs.take n)
  | _, _, 0, _ => .nil
  | _, _, _ + 1, .nil => .nil
  | _, _, n + 1, .cons r t => .cons r (RelDs.take n t)
theorem RelDs.drop : ∀ {ds : List D} {vs : List V} (n : Nat), RelDs K H ds vs → RelDs K H (ds.drop n) (vs.drop n)
  | _, _, 0, r => r
  | _, _, _ + 1, .nil => .nil
  | _, _, n + 1, .cons _ t => RelDs.drop n t
theorem RelDs.set : ∀ {ds : List D} {vs : List V} {d : D} {v : V} (n : Nat), RelD K H d v → RelDs K H ds vs → RelDs K H (ds.set n d) (vs.set n v)
  | _, _, _, _, _, _, .nil => .nil
  | _, _, _, _, 0, r, .cons _ t => .cons r t
  | _, _, _, _, n + 1, r, .cons q t => .cons q (RelDs.set n r t)
theorem RelDs.eraseIdx : ∀ {ds : List D} {vs : List V} (n : Nat), RelDs K H ds vs → RelDs K H (ds.eraseIdx n) (vs.eraseIdx n)
  | _, _, _, .nil => .nil
  | _, _, 0, .cons _ t => t
  | _, _, n + 1, .cons q t => .cons q (RelDs.eraseIdx n t)
theorem RelDs.dropLast : ∀ {ds : List D} {vs : List V}, RelDs K H ds vs → RelDs K H ds.dropLast vs.dropLast
  | _, _, .nil => .nil
  | _, _, .cons _ .nil => .nil
  | _, _, .cons q (.cons r t) => .cons q (RelDs.dropLast (.cons r t))
theorem RelDs.reverse : ∀ {ds : List D} {vs : List V}, RelDs K H ds vs → RelDs K H ds.reverse vs.reverse
  | _, _, .nil => .nil
  | _, _, .cons q t => by
    rw [List.reverse_cons, List.reverse_cons]
    exact (RelDs.reverse t).append (.cons q .nil)
theorem RelDs.rep {ds : List D} {vs : List V} (r : RelDs K H ds vs) : ∀ k : Nat, RelDs K H (List.replicate k ds).flatten (List.replicate k vs).flatten
  | 0 => .nil
  | k + 1 => by
    rw [List.replicate_succ, List.replicate_succ, List.flatten_cons, List.flatten_cons]
    exact r.append (RelDs.rep r k)
theorem RelDs.nil_iff {ds : List D} {vs : List V} (r : RelDs K H ds vs) : vs = [] ↔ ds = [] := by
  cases r <;> simp
/-- tuples that stand stay -/
def Keep (H H' : Hp) : Prop := (∀ a xs, H a = some (.tup xs) → H' a = some (.tup xs)) ∧ ∀ a o u, H a = some (.frz o u) → H' a = some (.frz o u)
theorem TupAt.keep {a : Addr} {xs : List V} (k : Keep H H') (h : TupAt K H a xs) : TupAt K H' a xs := by
  rcases h with h | h
  · exact .inl (k.1 _ _ h)
  · exact .inr h
theorem FlAt.keep {a : Addr} {xs : List V} (k : Keep H H') (h : FlAt K H a xs) : FlAt K H' a xs := by
  rcases h with ⟨o, h⟩ | h
  · exact .inl ⟨o, k.2 _ _ _ h⟩
  · exact .inr h
mutual
theorem RelD.keep (k : Keep H H') : ∀ {d : D} {v : V}, RelD K H d v → RelD K H' d v
  | _, _, .non => .non
  | _, _, .bl b => .bl b
  | _, _, .int i => .int i
  | _, _, .str x => .str x
  | _, _, .tup h r => .tup (h.keep k) (RelDs.keep k r)
  | _, _, .ref a => .ref a
  | _, _, .ty n => .ty n
  | _, _, .fl h r => .fl (h.keep k) (RelDs.keep k r)
theorem RelDs.keep (k : Keep H H') : ∀ {ds : List D} {vs : List V}, RelDs K H ds vs → RelDs K H' ds vs
  | _, _, .nil => .nil
  | _, _, .cons r t => .cons (RelD.keep k r) (RelDs.keep k t)
end
end

/-- a dict with tuple keys, by its entries as they lie -/
def RawD (P : Program) (w : World) (d : Addr) (L : List (NestedKey × Addr × Value)) : HO :=
  .ext fun h => L.length ≤ sizeLine ∧ (d == sysModules) = false ∧ ∃ o es ep, h.get? d = some o ∧ o.ExactDict ∧ o.data = .dict es ep ∧ es.toList = L.map (entryOfKey (nestedKind P w)) ∧ (L.map (·.1)).Nodup
mutual
/-- a datum as a dict's key -/
def D.key : D → Option NestedKey
  | .non => some .none
  | .bl b => some (.num (if b = true then 1 else 0))
  | .int i => some (.num i)
  | .str x => some (.text x)
  | .tup xs => (D.keys xs).map .tup
  | .ref _ => none
  | .ty _ => none
  | .fl _ => none
def D.keys : List D → Option (List NestedKey)
  | [] => some []
  | x :: xs => match D.key x, D.keys xs with
    | some k, some ks => some (k :: ks)
    | _, _ => none
end
/-- plain keys: ints and texts -/
def D.pkey : D → Option Key
  | .int i => some (.inl i)
  | .str x => some (.inr x)
  | _ => none
def D.isTup : D → Bool
  | .tup _ => true
  | _ => false

section
variable (P : Program) (w : World) (K : PySem.W.Frag)
def RelFs (H : Hp) (fs : List (Str × D)) (gs : List (Str × V)) : Prop := fs.map (·.1) = gs.map (·.1) ∧ RelDs K H (fs.map (·.2)) (gs.map (·.2))
def RelO (H : Hp) (M : Mem) (a : Addr) : MO → Prop
  | .lst ds => ∃ xs, H a = some (.lst xs) ∧ RelDs K H ds xs
  | .dic kvs => (∃ L, H a = some (.dK L) ∧ kvs.map (fun p => p.1.pkey) = L.map (fun p => some p.1) ∧ RelDs K H (kvs.map (·.2)) (L.map (·.2)))
      ∨ (∃ (L : List (NestedKey × Addr × Value)) (vs : List V), H a = some (RawD P w a L) ∧ kvs.map (fun p => p.1.key) = L.map (fun p => some p.1) ∧ RelDs K H (kvs.map (·.1)) (L.map fun p => V.ref p.2.1) ∧ ((∀ p ∈ kvs, p.1.isTup = true) ∧ kvs ≠ [] ∧ ∀ p ∈ L, p.1.depth ≤ 8) ∧ RelDs K H (kvs.map (·.2)) vs ∧ Vals vs (L.map (·.2.2)))
  | .ins C fs => ∃ dx gs, H a = some (.ins C dx gs) ∧ RelFs K H fs gs
  | .pool r c n => ∃ (ns : List Int) (t : Int), H a = some (.lst [.ref r, .ref c]) ∧ H r = some (.lst (ns.map V.int)) ∧ H c = some (.lst [.int t]) ∧ (ns ≠ [] ∧ ns.length ≤ 1000000) ∧ (∀ n ∈ ns, 0 ≤ n) ∧ (0 ≤ t ∧ t ≤ n) ∧ r ≠ a ∧ c ≠ a ∧ r ≠ c ∧ M r = some (.sub a) ∧ M c = some (.sub a)
  | .sub _ => ∃ xs, H a = some (.lst xs)
def RelM (H : Hp) (M : Mem) : Prop := ∀ a o, M a = some o → RelO P w K H M a o
end
/-- what a piece of code leaves: what is tracked and is not M's stands -/
def Step (H : Hp) (M : Mem) (H' : Hp) (M' : Mem) : Prop := ∀ a o, H a = some o → M a = none → H' a = some o ∧ M' a = none
section
variable {P : Program} {w : World} {K : PySem.W.Frag} {H H1 H2 H' : Hp} {M M1 M2 M' : Mem}
theorem Step.refl : Step H M H M := fun _ _ h m => ⟨h, m⟩
theorem Step.trans (a : Step H M H1 M1) (b : Step H1 M1 H2 M2) : Step H M H2 M2 := fun c o h m => let ⟨h1, m1⟩ := a c o h m; b c o h1 m1
/-- what M speaks of is tracked, and can change -/
theorem RelM.mut (R : RelM P w K H M) {a : Addr} {o : MO} (h : M a = some o) : ∃ u, H a = some u ∧ Mut (some u) := by
  have r := R a o h
  cases o with
  | lst ds => obtain ⟨ys, e, _⟩ := r; exact ⟨_, e, trivial⟩
  | dic kvs =>
    rcases r with ⟨L, e, _⟩ | ⟨L, vs, e, _⟩
    · exact ⟨_, e, trivial⟩
    · exact ⟨_, e, trivial⟩
  | ins C fs => obtain ⟨dx, gs, e, _⟩ := r; exact ⟨_, e, trivial⟩
  | pool r' c n' => obtain ⟨ns, t, e, _⟩ := r; exact ⟨_, e, trivial⟩
  | sub q' => obtain ⟨ys, e⟩ := r; exact ⟨_, e, trivial⟩
theorem RelM.nomut (R : RelM P w K H M) {a : Addr} {u : HO} (h : H a = some u) (n : ¬ Mut (some u)) : M a = none := by
  cases e : M a with
  | none => rfl
  | some o =>
    obtain ⟨u', q, m⟩ := R.mut e
    rw [h] at q; cases q
    exact absurd m n
theorem Step.keep (R : RelM P w K H M) (s : Step H M H' M') : Keep H H' :=
  ⟨fun a xs h => (s a _ h (R.nomut h (fun z => z))).1, fun a o u h => (s a _ h (R.nomut h (fun z => z))).1⟩
/-- an address that the heap does not track is free for M -/
theorem RelM.free (R : RelM P w K H M) {a : Addr} (h : H a = none) : M a = none := by
  cases e : M a with
  | none => rfl
  | some o =>
    obtain ⟨u', q, m⟩ := R.mut e
    rw [h] at q; cases q
/-- a new tracked object that M does not speak of -/
theorem RelO.step (R : RelM P w K H M) (k : Keep H H') {a : Addr} {o : MO} (r : RelO P w K H M a o) (hH : ∀ b, M b ≠ none → H' b = H b) (ha : M a = some o)
    (hM : ∀ b q, M b = some (.sub q) → M' b = some (.sub q)) : RelO P w K H' M' a o := by
  have hHa : H' a = H a := hH a (by rw [ha]; simp)
  cases o with
  | lst ds => obtain ⟨ys, e, q⟩ := r; exact ⟨ys, hHa.trans e, q.keep k⟩
  | dic kvs =>
    rcases r with ⟨L, e, q1, q2⟩ | ⟨L, vs, e, q1, q2, q3, q4, q5⟩
    · exact .inl ⟨L, hHa.trans e, q1, q2.keep k⟩
    · exact .inr ⟨L, vs, hHa.trans e, q1, q2.keep k, q3, q4.keep k, q5⟩
  | ins C fs => obtain ⟨dx, gs, e, q1, q2⟩ := r; exact ⟨dx, gs, hHa.trans e, q1, q2.keep k⟩
  | pool r' c n' =>
    obtain ⟨ns, t, e, er, ec, h1, h2, h3, h4, h5, h6, h7, h8⟩ := r
    exact ⟨ns, t, hHa.trans e, (hH r' (by rw [h7]; simp)).trans er, (hH c (by rw [h8]; simp)).trans ec, h1, h2, h3, h4, h5, h6, hM _ _ h7, hM _ _ h8⟩
  | sub q' => obtain ⟨ys, e⟩ := r; exact ⟨ys, hHa.trans e⟩
/-- a new object that M takes in -/
theorem RelM.laid (R : RelM P w K H M) {p : Addr} {u : HO} {o : MO} (hp : H p = none) (k : Keep H (upd H p u)) (r : RelO P w K (upd H p u) (mupd M p o) p o) : RelM P w K (upd H p u) (mupd M p o) := by
  intro a o' e
  by_cases ha : a = p
  · subst ha; rw [mupd_same] at e; cases e; exact r
  · rw [mupd_ne ha] at e
    refine RelO.step R k (R a o' e) (fun b hb => upd_ne fun z => hb (by rw [z]; exact R.free hp)) e fun b q hb => ?_
    rw [mupd_ne fun z => by rw [z, R.free hp] at hb; cases hb]
    exact hb
theorem keep_new {p : Addr} {u : HO} (hp : H p = none) : Keep H (upd H p u) := by
  refine ⟨fun a xs h => ?_, fun a o v h => ?_⟩
  · rw [upd_ne (ne_of_none h hp)]; exact h
  · rw [upd_ne (ne_of_none h hp)]; exact h
theorem Step.new {p : Addr} {u : HO} (R : RelM P w K H M) (hp : H p = none) (o : MO) : Step H M (upd H p u) (mupd M p o) := fun a v h m =>
  ⟨by rw [upd_ne (ne_of_none h hp)]; exact h, by rw [mupd_ne (ne_of_none h hp)]; exact m⟩
/-- a new object that M lets be -/
theorem RelM.beside (R : RelM P w K H M) {p : Addr} {u : HO} (hp : H p = none) : RelM P w K (upd H p u) M := fun a o e =>
  RelO.step R (keep_new hp) (R a o e) (fun b hb => upd_ne fun z => hb (by rw [z]; exact R.free hp)) e fun _ _ h => h
theorem Step.beside {p : Addr} {u : HO} (hp : H p = none) : Step H M (upd H p u) M := fun a v h m =>
  ⟨by rw [upd_ne (ne_of_none h hp)]; exact h, m⟩
/-- an object of M's is written -/
theorem Step.write {a : Addr} {u : HO} {o o' : MO} (h : M a = some o) : Step H M (upd H a u) (mupd M a o') := fun b v hb m => by
  have ne : b ≠ a := fun z => by rw [z, h] at m; cases m
  exact ⟨by rw [upd_ne ne]; exact hb, by rw [mupd_ne ne]; exact m⟩
theorem RelM.keepW (R : RelM P w K H M) {a : Addr} {u : HO} {o : MO} (h : M a = some o) : Keep H (upd H a u) := by
  obtain ⟨v, hv, m⟩ := R.mut h
  refine ⟨fun b xs e => ?_, fun b ob x e => ?_⟩
  · rw [upd_ne]; exact e
    intro z; subst z; rw [hv] at e; cases e; exact m
  · rw [upd_ne]; exact e
    intro z; subst z; rw [hv] at e; cases e; exact m
theorem RelM.write (R : RelM P w K H M) {a : Addr} {u : HO} {o o' : MO} (h : M a = some o) (ns : ∀ q, o ≠ .sub q) (r : RelO P w K (upd H a u) (mupd M a o') a o') : RelM P w K (upd H a u) (mupd M a o') := by
  intro b o2 e
  by_cases hb : b = a
  · subst hb; rw [mupd_same] at e; cases e; exact r
  · rw [mupd_ne hb] at e
    have k := R.keepW (u := u) h
    have hx := R b o2 e
    have hHb : upd H a u b = H b := upd_ne hb
    cases o2 with
    | lst ds => obtain ⟨ys, e, q⟩ := hx; exact ⟨ys, hHb.trans e, q.keep k⟩
    | dic kvs =>
      rcases hx with ⟨L, e, q1, q2⟩ | ⟨L, vs, e, q1, q2, q3, q4, q5⟩
      · exact .inl ⟨L, hHb.trans e, q1, q2.keep k⟩
      · exact .inr ⟨L, vs, hHb.trans e, q1, q2.keep k, q3, q4.keep k, q5⟩
    | ins C fs => obtain ⟨dx, gs, e, q1, q2⟩ := hx; exact ⟨dx, gs, hHb.trans e, q1, q2.keep k⟩
    | pool r' c n' =>
      obtain ⟨ns', t, e, er, ec, h1, h2, h3, h4, h5, h6, h7, h8⟩ := hx
      have nr : r' ≠ a := fun z => by rw [z, h] at h7; exact ns _ (Option.some.inj h7)
      have nc : c ≠ a := fun z => by rw [z, h] at h8; exact ns _ (Option.some.inj h8)
      exact ⟨ns', t, hHb.trans e, (upd_ne nr).trans er, (upd_ne nc).trans ec, h1, h2, h3, h4, h5, h6, (mupd_ne nr).trans h7, (mupd_ne nc).trans h8⟩
    | sub q' => obtain ⟨ys, e⟩ := hx; exact ⟨ys, hHb.trans e⟩
end
end MP

namespace MP
open PySem PySem.Spec PyProof.Rows L2

/-! ### readings over data -/
/-- the names' values -/
abbrev Sl := List (Option D)
structure WE where
  f : Sl → Mem → (D → Mem → Prop) → Prop
  mono : ∀ ρ M Q Q', (∀ d M, Q d M → Q' d M) → f ρ M Q → f ρ M Q'
structure WT where
  f : Sl → Mem → (Bool → Mem → Prop) → Prop
  mono : ∀ ρ M Q Q', (∀ d M, Q d M → Q' d M) → f ρ M Q → f ρ M Q'
structure WA where
  f : Sl → Mem → (List D → Mem → Prop) → Prop
  mono : ∀ ρ M Q Q', (∀ d M, Q d M → Q' d M) → f ρ M Q → f ρ M Q'
/-- a two-place operation; a one-place one; one of a list of values -/
structure W2 where
  f : D → D → Mem → (D → Mem → Prop) → Prop
  mono : ∀ d e M Q Q', (∀ d M, Q d M → Q' d M) → f d e M Q → f d e M Q'
structure W1 where
  f : D → Mem → (D → Mem → Prop) → Prop
  mono : ∀ d M Q Q', (∀ d M, Q d M → Q' d M) → f d M Q → f d M Q'
structure WN where
  f : List D → Mem → (D → Mem → Prop) → Prop
  mono : ∀ ds M Q Q', (∀ d M, Q d M → Q' d M) → f ds M Q → f ds M Q'

def RelS (K : PySem.W.Frag) (H : Hp) (ρ : Sl) (σ : L2.St) : Prop := ρ.length = σ.length ∧ ∀ (i : Nat) (d : D), ρ[i]? = some (some d) → ∃ v, σ[i]? = some (some v) ∧ RelD K H d v
theorem RelS.keep {K : PySem.W.Frag} {H H' : Hp} {ρ : Sl} {σ : L2.St} (k : Keep H H') (r : RelS K H ρ σ) : RelS K H' ρ σ :=
  ⟨r.1, fun i d e => let ⟨v, h1, h2⟩ := r.2 i d e; ⟨v, h1, h2.keep k⟩⟩
theorem RelS.set {K : PySem.W.Frag} {H : Hp} {ρ : Sl} {σ : L2.St} {d : D} {v : V} (r : RelS K H ρ σ) (i : Nat) (h : RelD K H d v) : RelS K H (ρ.set i (some d)) (σ.set i (some v)) := by
  refine ⟨by rw [List.length_set, List.length_set]; exact r.1, fun j e he => ?_⟩
  by_cases hj : i = j
  · subst hj
    by_cases hi : i < ρ.length
    · rw [List.getElem?_set_self hi] at he
      cases he
      exact ⟨v, by rw [List.getElem?_set_self (by rw [← r.1]; exact hi)], h⟩
    · rw [List.getElem?_eq_none (by rw [List.length_set]; omega)] at he
      cases he
  · rw [List.getElem?_set_ne hj] at he
    obtain ⟨u, h1, h2⟩ := r.2 j e he
    exact ⟨u, by rw [List.getElem?_set_ne hj]; exact h1, h2⟩

section
variable (P : Program) (w : World) (K : PySem.W.Frag)
def Post (H : Hp) (M : Mem) (Q' : D → Mem → Prop) (Q : VK) : Prop := ∀ v d H' M', Step H M H' M' → RelM P w K H' M' → RelD K H' d v → Q' d M' → Q v H'
def lE (t : WE) : TE := fun σ H Q => ∃ ρ M Q', RelS K H ρ σ ∧ RelM P w K H M ∧ t.f ρ M Q' ∧ Post P w K H M Q' Q
def lT (t : WT) : TT := fun σ H Q => ∃ ρ M Q', RelS K H ρ σ ∧ RelM P w K H M ∧ t.f ρ M Q' ∧ ∀ b H' M', Step H M H' M' → RelM P w K H' M' → Q' b M' → Q b H'
def lA (t : WA) : TA := fun σ H Q => ∃ ρ M Q', RelS K H ρ σ ∧ RelM P w K H M ∧ t.f ρ M Q' ∧ ∀ vs ds H' M', Step H M H' M' → RelM P w K H' M' → RelDs K H' ds vs → Q' ds M' → Q vs H'
def l2 (r : W2) : R2 := fun x y H Q => ∃ d e M Q', RelD K H d x ∧ RelD K H e y ∧ RelM P w K H M ∧ r.f d e M Q' ∧ Post P w K H M Q' Q
def l1 (r : W1) : V → Hp → VK → Prop := fun x H Q => ∃ d M Q', RelD K H d x ∧ RelM P w K H M ∧ r.f d M Q' ∧ Post P w K H M Q' Q
def lN (r : WN) : List V → Hp → VK → Prop := fun xs H Q => ∃ ds M Q', RelDs K H ds xs ∧ RelM P w K H M ∧ r.f ds M Q' ∧ Post P w K H M Q' Q
end
structure DE (X : Cx) (e : Expr) (t : WE) : Prop where
  pe : PE X e (lE X.prog X.w X.K t)
structure DT (X : Cx) (e : Expr) (t : WT) : Prop where
  pt : PT X e (lT X.prog X.w X.K t)
structure DW (X : Cx) (e : Expr) (t : WT) : Prop where
  pw : PW X e (lT X.prog X.w X.K t)
structure DA (X : Cx) (es : List Expr) (t : WA) : Prop where
  pa : PA X es (lA X.prog X.w X.K t)
structure D2 (X : Cx) (f : Value → Value → Sem Value) (r : W2) : Prop where
  op : OpR X f (l2 X.prog X.w X.K r)
structure D1 (X : Cx) (f : Value → Sem Value) (r : W1) : Prop where
  op : UnR X f (l1 X.prog X.w X.K r)
structure DN (X : Cx) (f : Value) (r : WN) : Prop where
  op : CallR X f (lN X.prog X.w X.K r)
theorem PE.imp {X : Cx} {e : Expr} {t u : TE} (h : PE X e t) (i : ∀ σ H Q, u σ H Q → t σ H Q) : PE X e u := ⟨fun pins s σ H Q I q => h.run pins s σ H Q I (i _ _ _ q)⟩
theorem PT.imp {X : Cx} {e : Expr} {t u : TT} (h : PT X e t) (i : ∀ σ H Q, u σ H Q → t σ H Q) : PT X e u := ⟨fun pins s σ H Q I q => h.run pins s σ H Q I (i _ _ _ q)⟩
theorem PW.imp {X : Cx} {e : Expr} {t u : TT} (h : PW X e t) (i : ∀ σ H Q, u σ H Q → t σ H Q) : PW X e u := ⟨fun wh pins s σ H Q I q => h.run wh pins s σ H Q I (i _ _ _ q)⟩
theorem PA.imp {X : Cx} {e : List Expr} {t u : TA} (h : PA X e t) (i : ∀ σ H Q, u σ H Q → t σ H Q) : PA X e u := ⟨fun pos pins s σ H Q I q => h.run pos pins s σ H Q I (i _ _ _ q)⟩
theorem DW.dt {X : Cx} {e : Expr} {t : WT} (h : DW X e t) : DT X e t := ⟨h.pw.pt⟩

section
variable {P : Program} {w : World} {K : PySem.W.Frag} {H H' H1 : Hp} {M M' M1 : Mem} {Q' : D → Mem → Prop} {Q : VK}
theorem Post.here (po : Post P w K H M Q' Q) (R : RelM P w K H M) {d : D} {v : V} (r : RelD K H d v) (q : Q' d M) : Q v H := po v d H M Step.refl R r q
theorem Post.after (po : Post P w K H M Q' Q) (s : Step H M H1 M1) : Post P w K H1 M1 Q' Q := fun v d H' M' st => po v d H' M' (s.trans st)
end

/-! ### the combinators -/
def wVar (i : Nat) : WE := ⟨fun ρ M Q => ∃ d, ρ[i]? = some (some d) ∧ Q d M, fun ρ M Q Q' h ⟨d, e, q⟩ => ⟨d, e, h _ _ q⟩⟩
def wC (d : D) : WE := ⟨fun _ M Q => Q d M, fun _ _ _ _ h q => h _ _ q⟩
def wOp (r : W2) (a b : WE) : WE := ⟨fun ρ M Q => a.f ρ M fun d M1 => b.f ρ M1 fun e M2 => r.f d e M2 Q,
  fun ρ M Q Q' h q => a.mono _ _ _ _ (fun _ _ q => b.mono _ _ _ _ (fun _ _ q => r.mono _ _ _ _ _ h q) q) q⟩
def wUn (r : W1) (a : WE) : WE := ⟨fun ρ M Q => a.f ρ M fun d M1 => r.f d M1 Q, fun ρ M Q Q' h q => a.mono _ _ _ _ (fun _ _ q => r.mono _ _ _ _ h q) q⟩
def aNil : WA := ⟨fun _ M Q => Q [] M, fun _ _ _ _ h q => h _ _ q⟩
def aCons (a : WE) (t : WA) : WA := ⟨fun ρ M Q => a.f ρ M fun d M1 => t.f ρ M1 fun ds M2 => Q (d :: ds) M2,
  fun ρ M Q Q' h q => a.mono _ _ _ _ (fun _ _ q => t.mono _ _ _ _ (fun _ _ q => h _ _ q) q) q⟩
def wCB (r : WN) (t : WA) : WE := ⟨fun ρ M Q => t.f ρ M fun ds M1 => r.f ds M1 Q, fun ρ M Q Q' h q => t.mono _ _ _ _ (fun _ _ q => r.mono _ _ _ _ h q) q⟩
def wTup (t : WA) : WE := ⟨fun ρ M Q => t.f ρ M fun ds M1 => ds.length ≤ sizeLine ∧ Q (.tup ds) M1, fun ρ M Q Q' h q => t.mono _ _ _ _ (fun _ _ q => ⟨q.1, h _ _ q.2⟩) q⟩
def wLst (t : WA) : WE := ⟨fun ρ M Q => t.f ρ M fun ds M1 => ds.length ≤ sizeLine ∧ ∀ p, M1 p = none → Q (.ref p) (mupd M1 p (.lst ds)),
  fun ρ M Q Q' h q => t.mono _ _ _ _ (fun _ _ q => ⟨q.1, fun p hp => h _ _ (q.2 p hp)⟩) q⟩
/-- a value (True or False) as a test -/
def wtB (a : WE) : WT := ⟨fun ρ M Q => a.f ρ M fun d M1 => ∃ b, d = .bl b ∧ Q b M1, fun ρ M Q Q' h q => a.mono _ _ _ _ (fun _ _ ⟨b, e, q⟩ => ⟨b, e, h _ _ q⟩) q⟩
def wtNot (a : WT) : WT := ⟨fun ρ M Q => a.f ρ M fun b M1 => Q (!b) M1, fun ρ M Q Q' h q => a.mono _ _ _ _ (fun _ _ q => h _ _ q) q⟩
def wtAnd (a b : WT) : WT := ⟨fun ρ M Q => a.f ρ M fun c M1 => (c = true → b.f ρ M1 Q) ∧ (c = false → Q false M1),
  fun ρ M Q Q' h q => a.mono _ _ _ _ (fun _ _ q => ⟨fun e => b.mono _ _ _ _ h (q.1 e), fun e => h _ _ (q.2 e)⟩) q⟩
def wtOr (a b : WT) : WT := ⟨fun ρ M Q => a.f ρ M fun c M1 => (c = true → Q true M1) ∧ (c = false → b.f ρ M1 Q),
  fun ρ M Q Q' h q => a.mono _ _ _ _ (fun _ _ q => ⟨fun e => h _ _ (q.1 e), fun e => b.mono _ _ _ _ h (q.2 e)⟩) q⟩
def wAnd (a b : WE) : WE := ⟨fun ρ M Q => a.f ρ M fun d M1 => ∃ c, d = .bl c ∧ (c = true → b.f ρ M1 Q) ∧ (c = false → Q (.bl false) M1),
  fun ρ M Q Q' h q => a.mono _ _ _ _ (fun _ _ ⟨c, e, q⟩ => ⟨c, e, fun e => b.mono _ _ _ _ h (q.1 e), fun e => h _ _ (q.2 e)⟩) q⟩
def wOr (a b : WE) : WE := ⟨fun ρ M Q => a.f ρ M fun d M1 => ∃ c, d = .bl c ∧ (c = true → Q (.bl true) M1) ∧ (c = false → b.f ρ M1 Q),
  fun ρ M Q Q' h q => a.mono _ _ _ _ (fun _ _ ⟨c, e, q⟩ => ⟨c, e, fun e => h _ _ (q.1 e), fun e => b.mono _ _ _ _ h (q.2 e)⟩) q⟩
def wNot (a : WE) : WE := ⟨fun ρ M Q => a.f ρ M fun d M1 => ∃ c, d = .bl c ∧ Q (.bl (!c)) M1, fun ρ M Q Q' h q => a.mono _ _ _ _ (fun _ _ ⟨c, e, q⟩ => ⟨c, e, h _ _ q⟩) q⟩
def wIf (t : WT) (a b : WE) : WE := ⟨fun ρ M Q => t.f ρ M fun c M1 => (c = true → a.f ρ M1 Q) ∧ (c = false → b.f ρ M1 Q),
  fun ρ M Q Q' h q => t.mono _ _ _ _ (fun _ _ q => ⟨fun e => a.mono _ _ _ _ h (q.1 e), fun e => b.mono _ _ _ _ h (q.2 e)⟩) q⟩
def wChain (r r' : W2) (a b c : WE) : WE := ⟨fun ρ M Q => a.f ρ M fun x M1 => b.f ρ M1 fun y M2 => r.f x y M2 fun z M3 => ∃ k, z = .bl k ∧ (k = true → c.f ρ M3 fun u M4 => r'.f y u M4 Q) ∧ (k = false → Q (.bl false) M3),
  fun ρ M Q Q' h q => a.mono _ _ _ _ (fun _ _ q => b.mono _ _ _ _ (fun _ _ q => r.mono _ _ _ _ _ (fun _ _ ⟨k, e, q⟩ => ⟨k, e, fun e => c.mono _ _ _ _ (fun _ _ q => r'.mono _ _ _ _ _ h q) (q.1 e), fun e => h _ _ (q.2 e)⟩) q) q) q⟩

/-! ### their rules -/
section
variable {X : Cx} {a b c : Expr} {es : List Expr} {wa wb wc : WE} {ta tb : WT} {t : WA} {pos : Pos}
theorem de_var {i : Nat} {x : Str} (hN : X.N[i]? = some x) (hv : Vis X.env.scope x) (hd : (x == ("__debug__" : Str)) = false := by decide) (hcd : (x == ("__classdict__" : Str)) = false := by decide) : DE X (.Name x pos) (wVar i) := by
  refine ⟨PE.imp (pe_var hN hv hd hcd) fun σ H Q ⟨ρ, M, Q', rs, rm, ⟨d, e, q⟩, po⟩ => ?_⟩
  obtain ⟨v, h1, h2⟩ := rs.2 i d e
  exact ⟨v, h1, po.here rm h2 q⟩
theorem dv (i : Nat) {x : Str} (hN : X.N[i]? = some x := by rfl) (hv : Vis X.env.scope x := by first | exact Or.inl rfl | exact Or.inr (Or.inl rfl) | exact Or.inr (Or.inr rfl)) (hd : (x == ("__debug__" : Str)) = false := by decide)
    (hcd : (x == ("__classdict__" : Str)) = false := by decide) : DE X (.Name x pos) (wVar i) := de_var hN hv hd hcd
theorem de_c {d : D} {v : V} {e : Expr} (h : PE X e (tC v)) (r : ∀ H, RelD X.K H d v) : DE X e (wC d) :=
  ⟨PE.imp h fun σ H Q ⟨ρ, M, Q', rs, rm, q, po⟩ => po.here rm (r H) q⟩
theorem de_int {i j} : DE X (.Constant (.int i) j pos) (wC (.int i)) := de_c pe_int fun _ => .int i
theorem de_bl {i j} : DE X (.Constant (.bool i) j pos) (wC (.bl i)) := de_c pe_bl fun _ => .bl i
theorem de_non {j} : DE X (.Constant .none j pos) (wC .non) := de_c pe_non fun _ => .non
theorem de_str {x j} : DE X (.Constant (.str x) j pos) (wC (.str x)) := de_c pe_str fun _ => .str x
theorem de_glob {x : Str} {d : D} {v : V} {u : Value} (hg : Gl X x) (hm : X.mg x = some u) (r : RelV v u) (h : ∀ H, RelD X.K H d v) (hd : (x == ("__debug__" : Str)) = false := by decide) : DE X (.Name x pos) (wC d) := de_c (pe_glob hg hm r hd) h
theorem de_ty {x : Str} {n : String} (hg : Gl X x) (hm : X.mg x = none) (hv : bootBuiltins x = some (.type n)) (hn : x ≠ "__name__" := by decide) (hd : (x == ("__debug__" : Str)) = false := by decide) : DE X (.Name x pos) (wC (.ty n)) :=
  de_c (pe_bltn (v := .ty n) hg hm hv rfl hn hd) fun _ => .ty n
theorem de_op {op : Operator} {r : W2} (ho : D2 X (binaryOp op) r) (ha : DE X a wa) (hb : DE X b wb) : DE X (.BinOp a op b pos) (wOp r wa wb) :=
  ⟨PE.imp (pe_op ho.op ha.pe hb.pe) fun σ H Q ⟨ρ, M, Q', rs, rm, q, po⟩ => ⟨ρ, M, _, rs, rm, q, fun x d H1 M1 s1 m1 r1 q1 => ⟨ρ, M1, _, rs.keep (s1.keep rm), m1, q1, fun y e H2 M2 s2 m2 r2 q2 =>
    ⟨d, e, M2, Q', r1.keep (s2.keep m1), r2, m2, q2, (po.after s1).after s2⟩⟩⟩⟩
theorem de_un {op : UnaryOp} {r : W1} (ho : D1 X (unaryOp op) r) (ha : DE X a wa) : DE X (.UnaryOp op a pos) (wUn r wa) :=
  ⟨PE.imp (pe_un ho.op ha.pe) fun σ H Q ⟨ρ, M, Q', rs, rm, q, po⟩ => ⟨ρ, M, _, rs, rm, q, fun x d H1 M1 s1 m1 r1 q1 => ⟨d, M1, Q', r1, m1, q1, po.after s1⟩⟩⟩
theorem de_cmp {op : CmpOp} {r : W2} (ho : D2 X (compareOp op) r) (ha : DE X a wa) (hb : DE X b wb) (hm : behindInMarks op b = false) : DE X (.Compare a [op] [b] pos) (wOp r wa wb) :=
  ⟨PE.imp (pe_cmpR ho.op ha.pe hb.pe hm) fun σ H Q ⟨ρ, M, Q', rs, rm, q, po⟩ => ⟨ρ, M, _, rs, rm, q, fun x d H1 M1 s1 m1 r1 q1 => ⟨ρ, M1, _, rs.keep (s1.keep rm), m1, q1, fun y e H2 M2 s2 m2 r2 q2 =>
    ⟨d, e, M2, Q', r1.keep (s2.keep m1), r2, m2, q2, (po.after s1).after s2⟩⟩⟩⟩
/-- a bool's V -/
theorem relD_bl {K : PySem.W.Frag} {H : Hp} {k : Bool} {v : V} (r : RelD K H (.bl k) v) : v = .bl k := by cases r; rfl
theorem dt_cmp {op : CmpOp} {r : W2} (ho : D2 X (compareOp op) r) (ha : DE X a wa) (hb : DE X b wb) (hm : behindInMarks op b = false) : DT X (.Compare a [op] [b] pos) (wtB (wOp r wa wb)) :=
  ⟨PT.imp (pt_cmpR ho.op ha.pe hb.pe hm) fun σ H Q ⟨ρ, M, Q', rs, rm, q, po⟩ => ⟨ρ, M, _, rs, rm, q, fun x d H1 M1 s1 m1 r1 q1 => ⟨ρ, M1, _, rs.keep (s1.keep rm), m1, q1, fun y e H2 M2 s2 m2 r2 q2 =>
    ⟨d, e, M2, _, r1.keep (s2.keep m1), r2, m2, q2, fun v d' H' M' st m' r' ⟨k, ek, q'⟩ => by
      subst ek
      exact ⟨k, relD_bl r', po k H' M' ((s1.trans s2).trans st) m' q'⟩⟩⟩⟩⟩
/-- a value that is True or False, as a test -/
theorem dt_val (h : DE X a wa) (he : ∀ whole, isTrue a X.env whole = (do let v ← whole; standAt a.pos; holding [v] (truthy v)) := by intro _; rfl) : DT X a (wtB wa) :=
  ⟨PT.imp (pt_val h.pe he) fun σ H Q ⟨ρ, M, Q', rs, rm, q, po⟩ => ⟨ρ, M, _, rs, rm, q, fun v d H' M' st m' r' ⟨k, ek, q'⟩ => by
      subst ek
      exact ⟨k, relD_bl r', po k H' M' st m' q'⟩⟩⟩
theorem dt_not (h : DT X a ta) : DT X (.UnaryOp .Not a pos) (wtNot ta) :=
  ⟨PT.imp (pt_not h.pt) fun σ H Q ⟨ρ, M, Q', rs, rm, q, po⟩ => ⟨ρ, M, _, rs, rm, q, fun b H' M' st m' q' => po _ H' M' st m' q'⟩⟩
theorem dw_and1 (h : DT X a ta) : DW X (.BoolOp .And [a] pos) ta := ⟨pw_and1 h.pt⟩
theorem dw_or1 (h : DT X a ta) : DW X (.BoolOp .Or [a] pos) ta := ⟨pw_or1 h.pt⟩
theorem dw_and {rest : List Expr} (ha : DT X a ta) (hb : DW X (.BoolOp .And (b :: rest) pos) tb) : DW X (.BoolOp .And (a :: b :: rest) pos) (wtAnd ta tb) :=
  ⟨PW.imp (pw_and ha.pt hb.pw) fun σ H Q ⟨ρ, M, Q', rs, rm, q, po⟩ => ⟨ρ, M, _, rs, rm, q, fun k H1 M1 s1 m1 q1 => by
    cases k with
    | true => exact iteT ⟨ρ, M1, Q', rs.keep (s1.keep rm), m1, q1.1 rfl, fun b H' M' st m' q' => po b H' M' (s1.trans st) m' q'⟩
    | false => exact iteF (po false H1 M1 s1 m1 (q1.2 rfl))⟩⟩
theorem dw_or {rest : List Expr} (ha : DT X a ta) (hb : DW X (.BoolOp .Or (b :: rest) pos) tb) : DW X (.BoolOp .Or (a :: b :: rest) pos) (wtOr ta tb) :=
  ⟨PW.imp (pw_or ha.pt hb.pw) fun σ H Q ⟨ρ, M, Q', rs, rm, q, po⟩ => ⟨ρ, M, _, rs, rm, q, fun k H1 M1 s1 m1 q1 => by
    cases k with
    | true => exact iteT (po true H1 M1 s1 m1 (q1.1 rfl))
    | false => exact iteF ⟨ρ, M1, Q', rs.keep (s1.keep rm), m1, q1.2 rfl, fun b H' M' st m' q' => po b H' M' (s1.trans st) m' q'⟩⟩⟩
theorem de_one {op} (h : DE X a wa) : DE X (.BoolOp op [a] pos) wa := ⟨pe_one h.pe⟩
theorem de_and {rest : List Expr} (ha : DE X a wa) (hb : DE X (.BoolOp .And (b :: rest) pos) wb) : DE X (.BoolOp .And (a :: b :: rest) pos) (wAnd wa wb) :=
  ⟨PE.imp (pe_and ha.pe hb.pe) fun σ H Q ⟨ρ, M, Q', rs, rm, q, po⟩ => ⟨ρ, M, _, rs, rm, q, fun x d H1 M1 s1 m1 r1 ⟨k, ek, q1⟩ => by
    subst ek
    refine ⟨k, relD_bl r1, ?_⟩
    cases k with
    | true => exact iteT ⟨ρ, M1, Q', rs.keep (s1.keep rm), m1, q1.1 rfl, po.after s1⟩
    | false => exact iteF (po (.bl false) (.bl false) H1 M1 s1 m1 (.bl false) (q1.2 rfl))⟩⟩
theorem de_or {rest : List Expr} (ha : DE X a wa) (hb : DE X (.BoolOp .Or (b :: rest) pos) wb) : DE X (.BoolOp .Or (a :: b :: rest) pos) (wOr wa wb) :=
  ⟨PE.imp (pe_or ha.pe hb.pe) fun σ H Q ⟨ρ, M, Q', rs, rm, q, po⟩ => ⟨ρ, M, _, rs, rm, q, fun x d H1 M1 s1 m1 r1 ⟨k, ek, q1⟩ => by
    subst ek
    refine ⟨k, relD_bl r1, ?_⟩
    cases k with
    | true => exact iteT (po (.bl true) (.bl true) H1 M1 s1 m1 (.bl true) (q1.1 rfl))
    | false => exact iteF ⟨ρ, M1, Q', rs.keep (s1.keep rm), m1, q1.2 rfl, po.after s1⟩⟩⟩
theorem de_not (ha : DE X a wa) : DE X (.UnaryOp .Not a pos) (wNot wa) :=
  ⟨PE.imp (pe_not ha.pe) fun σ H Q ⟨ρ, M, Q', rs, rm, q, po⟩ => ⟨ρ, M, _, rs, rm, q, fun x d H1 M1 s1 m1 r1 ⟨k, ek, q1⟩ => by
    subst ek
    exact ⟨k, relD_bl r1, po _ _ H1 M1 s1 m1 (.bl _) q1⟩⟩⟩
theorem de_if (hc : DT X c ta) (ha : DE X a wa) (hb : DE X b wb) : DE X (.IfExp c a b pos) (wIf ta wa wb) :=
  ⟨PE.imp (pe_ifExp hc.pt ha.pe hb.pe) fun σ H Q ⟨ρ, M, Q', rs, rm, q, po⟩ => ⟨ρ, M, _, rs, rm, q, fun k H1 M1 s1 m1 q1 => by
    cases k with
    | true => exact iteT ⟨ρ, M1, Q', rs.keep (s1.keep rm), m1, q1.1 rfl, po.after s1⟩
    | false => exact iteF ⟨ρ, M1, Q', rs.keep (s1.keep rm), m1, q1.2 rfl, po.after s1⟩⟩⟩
theorem de_chain {op op' : CmpOp} {r r' : W2} (ho : D2 X (compareOp op) r) (ho' : D2 X (compareOp op') r') (ha : DE X a wa) (hb : DE X b wb) (hc : DE X c wc)
    (hm : lastMarks [op, op'] [b, c] = false := by with_unfolding_all rfl) : DE X (.Compare a [op, op'] [b, c] pos) (wChain r r' wa wb wc) :=
  ⟨PE.imp (pe_chain ho.op ho'.op ha.pe hb.pe hc.pe hm) fun σ H Q ⟨ρ, M, Q', rs, rm, q, po⟩ => ⟨ρ, M, _, rs, rm, q, fun x d H1 M1 s1 m1 r1 q1 => ⟨ρ, M1, _, rs.keep (s1.keep rm), m1, q1, fun y e H2 M2 s2 m2 r2 q2 =>
    ⟨d, e, M2, _, r1.keep (s2.keep m1), r2, m2, q2, fun z d' H3 M3 s3 m3 r3 ⟨k, ek, q3⟩ => by
      subst ek
      refine ⟨k, relD_bl r3, ?_⟩
      cases k with
      | true => exact iteT ⟨ρ, M3, _, rs.keep ((s1.trans (s2.trans s3)).keep rm), m3, q3.1 rfl, fun u e' H4 M4 s4 m4 r4 q4 => ⟨e, e', M4, Q', r2.keep ((s3.trans s4).keep m2), r4, m4, q4, po.after (s1.trans (s2.trans (s3.trans s4)))⟩⟩
      | false => exact iteF (po _ _ H3 M3 (s1.trans (s2.trans s3)) m3 (.bl false) (q3.2 rfl))⟩⟩⟩⟩
theorem dt_chain {op op' : CmpOp} {r r' : W2} (ho : D2 X (compareOp op) r) (ho' : D2 X (compareOp op') r') (ha : DE X a wa) (hb : DE X b wb) (hc : DE X c wc)
    (hm : lastMarks [op, op'] [b, c] = false := by with_unfolding_all rfl) : DT X (.Compare a [op, op'] [b, c] pos) (wtB (wChain r r' wa wb wc)) :=
  ⟨PT.imp (pt_chain ho.op ho'.op ha.pe hb.pe hc.pe hm) fun σ H Q ⟨ρ, M, Q', rs, rm, q, po⟩ => ⟨ρ, M, _, rs, rm, q, fun x d H1 M1 s1 m1 r1 q1 => ⟨ρ, M1, _, rs.keep (s1.keep rm), m1, q1, fun y e H2 M2 s2 m2 r2 q2 =>
    ⟨d, e, M2, _, r1.keep (s2.keep m1), r2, m2, q2, fun z d' H3 M3 s3 m3 r3 ⟨k, ek, q3⟩ => by
      subst ek
      refine ⟨k, relD_bl r3, ?_⟩
      cases k with
      | true => exact iteT ⟨ρ, M3, _, rs.keep ((s1.trans (s2.trans s3)).keep rm), m3, q3.1 rfl, fun u e' H4 M4 s4 m4 r4 q4 => ⟨e, e', M4, _, r2.keep ((s3.trans s4).keep m2), r4, m4, q4, fun v d5 H5 M5 s5 m5 r5 ⟨k5, e5, q5⟩ => by
          subst e5
          exact ⟨k5, relD_bl r5, po k5 H5 M5 (s1.trans (s2.trans (s3.trans (s4.trans s5)))) m5 q5⟩⟩⟩
      | false =>
        refine iteF ?_
        obtain ⟨k5, e5, q5⟩ := q3.2 rfl
        cases e5
        exact ⟨false, rfl, po false H3 M3 (s1.trans (s2.trans s3)) m3 q5⟩⟩⟩⟩⟩
theorem da_nil : DA X [] aNil := ⟨PA.imp pa_nil fun σ H Q ⟨ρ, M, Q', rs, rm, q, po⟩ => po [] [] H M Step.refl rm .nil q⟩
theorem da_cons (ha : DE X a wa) (hr : DA X es t) (hs : starEach (a :: es) X.env = (false, eval a X.env) :: starEach es X.env := by rfl) : DA X (a :: es) (aCons wa t) :=
  ⟨PA.imp (pa_cons ha.pe hr.pa hs) fun σ H Q ⟨ρ, M, Q', rs, rm, q, po⟩ => ⟨ρ, M, _, rs, rm, q, fun x d H1 M1 s1 m1 r1 q1 => ⟨ρ, M1, _, rs.keep (s1.keep rm), m1, q1, fun vs ds H2 M2 s2 m2 r2 q2 =>
    po (x :: vs) (d :: ds) H2 M2 (s1.trans s2) m2 (.cons (r1.keep (s2.keep m1)) r2) q2⟩⟩⟩
theorem de_tup {k : Nat} (h : DA X es t) : DE X (.Tuple es k pos) (wTup t) :=
  ⟨PE.imp (pe_tup h.pa) fun σ H Q ⟨ρ, M, Q', rs, rm, q, po⟩ => ⟨ρ, M, _, rs, rm, q, fun vs ds H1 M1 s1 m1 r1 ⟨z, q1⟩ => ⟨by rw [← r1.length]; exact z, fun p hp =>
    po (.ref p) (.tup ds) _ M1 (s1.trans (Step.beside hp)) (m1.beside hp) (.tup (.inl upd_same) (r1.keep (keep_new hp))) q1⟩⟩⟩
theorem de_lst (h : DA X es t) : DE X (.List es pos) (wLst t) :=
  ⟨PE.imp (pe_lst h.pa) fun σ H Q ⟨ρ, M, Q', rs, rm, q, po⟩ => ⟨ρ, M, _, rs, rm, q, fun vs ds H1 M1 s1 m1 r1 ⟨z, q1⟩ => ⟨by rw [← r1.length]; exact z, fun p hp =>
    po (.ref p) (.ref p) _ _ (s1.trans (Step.new m1 hp (.lst ds))) (m1.laid hp (keep_new hp) ⟨vs, upd_same, r1.keep (keep_new hp)⟩) (.ref p) (q1 p (m1.free hp))⟩⟩⟩
theorem de_callB {x : Str} {id : String} {p : Pos} {r : WN} (hc : DN X (.builtin id) r) (hg : Gl X x) (hm : X.mg x = none) (hv : bootBuiltins x = some (.builtin id)) (ha : DA X (a :: es) t) (hn : x ≠ "__name__" := by decide) (hdb : (x == ("__debug__" : Str)) = false := by decide)
    (he : starEach (a :: es) X.env = (false, eval a X.env) :: starEach es X.env := by rfl) (hpl : (backTo pos (starEach es X.env)).any (·.1) = false := by rfl) : DE X (.Call (.Name x p) (a :: es) [] pos) (wCB r t) :=
  ⟨PE.imp (pe_callB hc.op hg hm hv ha.pa hn hdb he hpl) fun σ H Q ⟨ρ, M, Q', rs, rm, q, po⟩ => ⟨ρ, M, _, rs, rm, q, fun vs ds H1 M1 s1 m1 r1 q1 => ⟨ds, M1, Q', r1, m1, q1, po.after s1⟩⟩⟩
theorem de_callTy {x : Str} {T : String} {p : Pos} {r : WN} (hc : DN X (.type T) r) (hg : Gl X x) (hm : X.mg x = none) (hv : bootBuiltins x = some (.type T)) (ha : DA X (a :: es) t) (hn : x ≠ "__name__" := by decide) (hdb : (x == ("__debug__" : Str)) = false := by decide)
    (he : starEach (a :: es) X.env = (false, eval a X.env) :: starEach es X.env := by rfl) (hpl : (backTo pos (starEach es X.env)).any (·.1) = false := by rfl) : DE X (.Call (.Name x p) (a :: es) [] pos) (wCB r t) :=
  ⟨PE.imp (pe_callTy hc.op hg hm hv ha.pa hn hdb he hpl) fun σ H Q ⟨ρ, M, Q', rs, rm, q, po⟩ => ⟨ρ, M, _, rs, rm, q, fun vs ds H1 M1 s1 m1 r1 q1 => ⟨ds, M1, Q', r1, m1, q1, po.after s1⟩⟩⟩
end
end MP

namespace MP
open PySem PySem.Spec PyProof.Rows L2

/-! ### data -/
mutual
def D.py : D → PyData
  | .non => .none
  | .bl b => .bool b
  | .int i => .int i
  | .str x => .str x
  | .tup xs => .tuple (D.pys xs)
  | .ref _ => .dict []
  | .ty _ => .dict []
  | .fl xs => .list (D.pys xs)
def D.pys : List D → List PyData
  | [] => []
  | x :: xs => D.py x :: D.pys xs
end
theorem pys_map : ∀ xs : List D, D.pys xs = xs.map D.py
  | [] => rfl
  | x :: xs => by rw [D.pys, pys_map xs]; rfl
/-- no object within -/
abbrev D.pl (d : D) : Prop := d.py.plain = true
abbrev D.pls (ds : List D) : Prop := PyData.plainAll (D.pys ds) = true
abbrev D.dep (d : D) : Nat := d.py.depth
abbrev D.deps (ds : List D) : Nat := PyData.depthAll (D.pys ds)
/-- == and < of data -/
abbrev eqD (d e : D) : Bool := PyData.eqv d.py e.py
abbrev ltD (d e : D) : Bool := PySem.W.dataLt d.py e.py

section
variable {K : PySem.W.Frag} {H : Hp}
mutual
theorem relD_dp : ∀ (d : D) (v : V), RelD K H d v → d.pl → Dp K H v d.py
  | .non, _, .non, _ => .non
  | .bl b, _, .bl _, _ => .bl b
  | .int i, _, .int _, _ => .int i
  | .str x, _, .str _, _ => .str x
  | .tup ds, _, .tup h r, p => by
    rw [D.py]
    exact .tup h.sq (relDs_dp ds _ r (by rw [D.pl, D.py, PyData.plain] at p; exact p))
  | .fl ds, _, .fl h r, p => by
    rw [D.py]
    exact .lst h.sq (relDs_dp ds _ r (by rw [D.pl, D.py, PyData.plain] at p; exact p))
  | .ref a, _, _, p => by simp [D.pl, D.py, PyData.plain] at p
  | .ty a, _, _, p => by simp [D.pl, D.py, PyData.plain] at p
theorem relDs_dp : ∀ (ds : List D) (vs : List V), RelDs K H ds vs → D.pls ds → DpAll K H vs (D.pys ds)
  | [], _, .nil, _ => by rw [D.pys]; exact .nil
  | d :: ds, _, .cons r t, p => by
    have p' : d.py.plain = true ∧ PyData.plainAll (D.pys ds) = true := by
      rw [D.pls, D.pys, PyData.plainAll, Bool.and_eq_true] at p; exact p
    rw [D.pys]
    exact .cons (relD_dp d _ r p'.1) (relDs_dp ds _ t p'.2)
end
end
theorem Inv.rd {X : Cx} {pins : List (Addr × Obj)} {σ : L2.St} {H : Hp} {s : Shared} (I : Inv X pins σ H s) {d : D} {v : V} {u : Value} (r : RelD X.K H d v) (p : d.pl) (rv : RelV v u) : ∃ as, Reads s.heap u d.py as :=
  Dp.reads I d.py v u (relD_dp d v r p) rv
theorem Inv.rds {X : Cx} {pins : List (Addr × Obj)} {σ : L2.St} {H : Hp} {s : Shared} (I : Inv X pins σ H s) {ds : List D} {vs : List V} {us : List Value} (r : RelDs X.K H ds vs) (p : D.pls ds) (rv : Vals vs us) : ∃ as, ReadsAll s.heap us (D.pys ds) as :=
  Dp.readsAll I (D.pys ds) vs us (relDs_dp ds vs r p) rv
/-- a tracked list as data -/
theorem Inv.rdl {X : Cx} {pins : List (Addr × Obj)} {σ : L2.St} {H : Hp} {s : Shared} (I : Inv X pins σ H s) {ds : List D} {a : Addr} {vs : List V} (h : H a = some (.lst vs)) (r : RelDs X.K H ds vs) (p : D.pls ds) : ∃ as, Reads s.heap (.ref a) (.list (D.pys ds)) as :=
  Dp.reads I (.list (D.pys ds)) (.ref a) (.ref a) (.lst (.inl (.inl h)) (relDs_dp ds vs r p)) rfl

/-! ### operators -/
/-- by cases: where none of the arms is taken nothing is known -/
def rAdd : W2 := ⟨fun d e M Q => match d, e with
    | .int i, .int j => Q (.int (i + j)) M
    | .str x, .str y => x.length + y.length ≤ sizeLine ∧ Q (.str (x ++ y)) M
    | .tup xs, .tup ys => xs.length + ys.length ≤ sizeLine ∧ Q (.tup (xs ++ ys)) M
    | .ref a, .ref b => ∃ xs ys, M a = some (.lst xs) ∧ M b = some (.lst ys) ∧ xs.length + ys.length ≤ sizeLine ∧ ∀ p, M p = none → Q (.ref p) (mupd M p (.lst (xs ++ ys)))
    | _, _ => False, fun d e M Q Q' h q => by
  cases d <;> cases e <;> first | exact q.elim | exact h _ _ q | exact ⟨q.1, h _ _ q.2⟩ | (obtain ⟨xs, ys, q1, q2, q3, q4⟩ := q; exact ⟨xs, ys, q1, q2, q3, fun p hp => h _ _ (q4 p hp)⟩)⟩
def rI2 (C : Int → Int → Prop) (g : Int → Int → D) : W2 := ⟨fun d e M Q => match d, e with
    | .int i, .int j => C i j ∧ Q (g i j) M
    | _, _ => False, fun d e M Q Q' h q => by
  cases d <;> cases e <;> first | exact q.elim | exact ⟨q.1, h _ _ q.2⟩⟩
def rI20 (g : Int → Int → D) : W2 := ⟨fun d e M Q => match d, e with
    | .int i, .int j => Q (g i j) M
    | _, _ => False, fun d e M Q Q' h q => by
  cases d <;> cases e <;> first | exact q.elim | exact h _ _ q⟩
abbrev rSub : W2 := rI20 fun i j => .int (i - j)
def rMul : W2 := ⟨fun d e M Q => match d, e with
    | .int i, .int j => CMul i j ∧ Q (.int (i * j)) M
    | .ref a, .int k => ∃ xs, M a = some (.lst xs) ∧ -(2 ^ 63) ≤ k ∧ k < 2 ^ 63 ∧ xs.length * k.toNat ≤ sizeLine ∧ ∀ p, M p = none → Q (.ref p) (mupd M p (.lst (List.replicate k.toNat xs).flatten))
    | _, _ => False, fun d e M Q Q' h q => by
  cases d <;> cases e <;> first | exact q.elim | exact ⟨q.1, h _ _ q.2⟩ | (obtain ⟨xs, q1, q2, q3, q4, q5⟩ := q; exact ⟨xs, q1, q2, q3, q4, fun p hp => h _ _ (q5 p hp)⟩)⟩
abbrev rFdiv : W2 := rI2 CDiv fun i j => .int (i / j)
abbrev rMod : W2 := rI2 (fun _ j => 0 < j) fun i j => .int (i % j)
abbrev rPow : W2 := rI2 CPow fun i j => .int (i ^ j.toNat)
def r1I (g : Int → D) : W1 := ⟨fun d M Q => match d with
    | .int i => Q (g i) M
    | _ => False, fun d M Q Q' h q => by cases d <;> first | exact q.elim | exact h _ _ q⟩
abbrev rNeg : W1 := r1I fun i => .int (-i)
section
variable {X : Cx}
theorem d_add : D2 X (binaryOp .Add) rAdd := ⟨by
  intro pins s σ H x y v u Q I rx ry ⟨d, e, M, Q', rd, re, rm, q, po⟩
  cases rd <;> cases re <;> first
    | exact False.elim q
    | exact op_add pins s σ H _ _ v u Q I rx ry ⟨_, _, rfl, rfl, po.here rm (.int _) q⟩
    | exact op_add_str pins s σ H _ _ v u Q I rx ry ⟨_, _, rfl, rfl, q.1, po.here rm (.str _) q.2⟩
    | skip
  · rename_i a xs vs hx rs b ys ws hy rt
    refine op_catA pins s σ H _ _ v u Q I rx ry ⟨_, _, vs, ws, rfl, rfl, hx.sq, hy.sq, by rw [← rs.length, ← rt.length]; exact q.1, fun e => ?_, fun e1 e2 => ?_, fun _ _ p hp => ?_⟩
    · subst e; rw [rs.nil_iff.mp rfl] at q; exact po.here rm (.tup hy rt) q.2
    · subst e2; rw [rt.nil_iff.mp rfl] at q; exact po.here rm (.tup hx rs) (by have q2 : Q' (.tup (xs ++ [])) M := q.2; rw [List.append_nil] at q2; exact q2)
    · exact po _ _ _ M (Step.beside hp) (rm.beside hp) (.tup (.inl upd_same) ((rs.append rt).keep (keep_new hp))) q.2
  · obtain ⟨xs, ys, ha, hb, hz, q⟩ := q
    obtain ⟨vs, h1, r1⟩ := rm _ _ ha
    obtain ⟨ws, h2, r2⟩ := rm _ _ hb
    exact op_cat pins s σ H _ _ v u Q I rx ry ⟨_, _, vs, ws, rfl, rfl, h1, h2, by rw [← r1.length, ← r2.length]; exact hz, fun p hp =>
      po _ _ _ _ (Step.new rm hp (.lst (xs ++ ys))) (rm.laid hp (keep_new hp) ⟨vs ++ ws, upd_same, (r1.append r2).keep (keep_new hp)⟩) (.ref p) (q p (rm.free hp))⟩⟩
theorem d_i2 {f : Value → Value → Sem Value} {C : Int → Int → Prop} {g : Int → Int → V} {g' : Int → Int → D} (o : OpR X f (rI C g)) (r : ∀ H i j, RelD X.K H (g' i j) (g i j)) : D2 X f (rI2 C g') := ⟨by
  intro pins s σ H x y v u Q I rx ry ⟨d, e, M, Q', rd, re, rm, q, po⟩
  cases rd <;> cases re <;> first
    | exact False.elim q
    | exact o pins s σ H _ _ v u Q I rx ry ⟨_, _, rfl, rfl, q.1, po.here rm (r _ _ _) q.2⟩⟩
theorem d_i20 {f : Value → Value → Sem Value} {g : Int → Int → V} {g' : Int → Int → D} (o : OpR X f (rI0 g)) (r : ∀ H i j, RelD X.K H (g' i j) (g i j)) : D2 X f (rI20 g') := ⟨by
  intro pins s σ H x y v u Q I rx ry ⟨d, e, M, Q', rd, re, rm, q, po⟩
  cases rd <;> cases re <;> first
    | exact False.elim q
    | exact o pins s σ H _ _ v u Q I rx ry ⟨_, _, rfl, rfl, po.here rm (r _ _ _) q⟩⟩
theorem d_sub : D2 X (binaryOp .Sub) rSub := d_i20 op_sub fun _ _ _ => .int _
theorem d_fdiv : D2 X (binaryOp .FloorDiv) rFdiv := d_i2 op_fdiv fun _ _ _ => .int _
theorem d_mod : D2 X (binaryOp .Mod) rMod := d_i2 op_mod fun _ _ _ => .int _
theorem d_pow : D2 X (binaryOp .Pow) rPow := d_i2 op_pow fun _ _ _ => .int _
theorem d_mul : D2 X (binaryOp .Mult) rMul := ⟨by
  intro pins s σ H x y v u Q I rx ry ⟨d, e, M, Q', rd, re, rm, q, po⟩
  cases rd <;> cases re <;> first
    | exact False.elim q
    | exact op_mul pins s σ H _ _ v u Q I rx ry ⟨_, _, rfl, rfl, q.1, po.here rm (.int _) q.2⟩
    | skip
  obtain ⟨xs, ha, h1, h2, hz, q⟩ := q
  obtain ⟨vs, hH, r1⟩ := rm _ _ ha
  exact op_rep pins s σ H _ _ v u Q I rx ry ⟨_, _, vs, rfl, rfl, hH, h1, h2, by rw [← r1.length]; exact hz, fun p hp =>
      po _ _ _ _ (Step.new rm hp (.lst (List.replicate _ xs).flatten)) (rm.laid hp (keep_new hp) ⟨_, upd_same, (r1.rep _).keep (keep_new hp)⟩) (.ref p) (q p (rm.free hp))⟩⟩
theorem d_neg : D1 X (unaryOp .USub) rNeg := ⟨by
  intro pins s σ H x v Q I rx ⟨d, M, Q', rd, rm, q, po⟩
  cases rd <;> first
    | exact False.elim q
    | exact un_neg pins s σ H _ v Q I rx ⟨_, rfl, po.here rm (.int _) q⟩⟩
end

/-! ### comparisons -/
def rEqn (n : Bool) : W2 := ⟨fun d e M Q => match d, e with
    | .int i, .int j => Q (.bl (xor n (decide (i = j)))) M
    | .str i, .str j => Q (.bl (xor n (decide (i = j)))) M
    | .bl i, .bl j => Q (.bl (xor n (i == j))) M
    | .ref a, .ref b => ∃ xs ys, M a = some (.lst xs) ∧ M b = some (.lst ys) ∧ D.pls xs ∧ D.pls ys ∧ min (D.deps xs) (D.deps ys) ≤ 60 ∧ Q (.bl (xor n (PyData.eqvAll (D.pys xs) (D.pys ys)))) M
    | d, e => d.pl ∧ e.pl ∧ min d.dep e.dep ≤ 60 ∧ Q (.bl (xor n (eqD d e))) M, fun d e M Q Q' h q => by
  cases d <;> cases e <;> first | exact h _ _ q | (obtain ⟨q1, q2, q3, q4⟩ := q; exact ⟨q1, q2, q3, h _ _ q4⟩) | (obtain ⟨xs, ys, q1, q2, q3, q4, q5, q6⟩ := q; exact ⟨xs, ys, q1, q2, q3, q4, q5, h _ _ q6⟩)⟩
abbrev rEq : W2 := rEqn false
abbrev rNe : W2 := rEqn true
theorem xor_f (b : Bool) : xor false b = b := by cases b <;> rfl
theorem xor_t (b : Bool) : xor true b = !b := by cases b <;> rfl
def rLt : W2 := ⟨fun d e M Q => match d, e with
    | .int i, .int j => Q (.bl (decide (i < j))) M
    | d, e => PySem.W.alike d.py e.py = true ∧ d.py ≠ .none ∧ min d.dep e.dep ≤ 60 ∧ d.pl ∧ e.pl ∧ Q (.bl (ltD d e)) M, fun d e M Q Q' h q => by
  cases d <;> cases e <;> first | exact h _ _ q | (obtain ⟨q1, q2, q3, q4, q5, q6⟩ := q; exact ⟨q1, q2, q3, q4, q5, h _ _ q6⟩)⟩
abbrev rLe : W2 := rI20 fun i j => .bl (decide (i ≤ j))
abbrev rGt : W2 := rI20 fun i j => .bl (decide (j < i))
abbrev rGe : W2 := rI20 fun i j => .bl (decide (j ≤ i))
def D.isNon : D → Bool
  | .non => true
  | _ => false
def rIsn (n : Bool) : W2 := ⟨fun d e M Q => match e with
    | .non => Q (.bl (xor n d.isNon)) M
    | .bl b => match d with
      | .bl a => Q (.bl (xor n (decide (a = b)))) M
      | _ => False
    | _ => False, fun d e M Q Q' h q => by
  cases e <;> first | exact h _ _ q | exact q.elim | (cases d <;> first | exact h _ _ q | exact q.elim)⟩
abbrev rIs : W2 := rIsn false
abbrev rIsNot : W2 := rIsn true
section
variable {X : Cx}
theorem fin_b {pins : List (Addr × Obj)} {σ : L2.St} {H : Hp} {s : Shared} {M : Mem} {Q' : D → Mem → Prop} {Q : VK} {k k' : Bool} (I : Inv X pins σ H s) (rm : RelM X.prog X.w X.K H M) (po : Post X.prog X.w X.K H M Q' Q) (q : Q' (.bl k) M) (e : k = k') : EP X pins σ Q (.bool k') s := by
  subst e
  exact ⟨.bl k, H, I, rfl, po.here rm (.bl k) q⟩
theorem d_eq (hu : X.A.units + 64 < cLine) : D2 X (compareOp .Eq) rEq := ⟨by
  intro pins s σ H x y v u Q I rx ry ⟨d, e, M, Q', rd, re, rm, q, po⟩
  have gen : d.pl → e.pl → min d.dep e.dep ≤ 60 → Q' (.bl (eqD d e)) M → wpAny (model X.prog X.w) X.A (compareOp .Eq v u) (EP X pins σ Q) X.xe s := fun p1 p2 h q => by
    obtain ⟨as, r1⟩ := Inv.rd I rd p1 rx
    obtain ⟨bs, r2⟩ := Inv.rd I re p2 ry
    exact PySem.SeqAt.eq_plain r1 r2 p1 p2 (by have : min d.py.depth e.py.depth ≤ 60 := h; omega) (fin_b I rm po q rfl)
  cases d <;> cases e <;> first
    | (obtain ⟨q1, q2, q3, q4⟩ := q; exact gen q1 q2 q3 (by rw [xor_f] at q4; exact q4))
    | (refine gen rfl rfl (by simp [D.dep, D.py, PyData.depth]) ?_; simpa [rEqn, eqD, D.py, PyData.eqv] using q)
    | (rename_i i j; refine gen rfl rfl (by simp [D.dep, D.py, PyData.depth]) ?_; have q2 : Q' (.bl (xor _ (i == j))) M := q; simp only [eqD, D.py, PyData.eqv]; first | (rw [xor_f] at q2; exact q2) | (rw [xor_t] at q2; exact q2))
    | skip
  cases rd; cases re
  obtain ⟨xs, ys, ha, hb, p1, p2, hz, q⟩ := q
  obtain ⟨vs, h1, r1⟩ := rm _ _ ha
  obtain ⟨ws, h2, r2⟩ := rm _ _ hb
  obtain ⟨as, g1⟩ := Inv.rdl I h1 r1 p1
  obtain ⟨bs, g2⟩ := Inv.rdl I h2 r2 p2
  cases rx; cases ry
  exact PySem.SeqAt.eq_plain g1 g2 (by rw [PyData.plain]; exact p1) (by rw [PyData.plain]; exact p2) (by rw [PyData.depth, PyData.depth]; have : min (PyData.depthAll (D.pys xs)) (PyData.depthAll (D.pys ys)) ≤ 60 := hz; omega) (fin_b I rm po q (by rw [xor_f, PyData.eqv]))⟩
theorem d_ne (hu : X.A.units + 64 < cLine) : D2 X (compareOp .NotEq) rNe := ⟨by
  intro pins s σ H x y v u Q I rx ry ⟨d, e, M, Q', rd, re, rm, q, po⟩
  have gen : d.pl → e.pl → min d.dep e.dep ≤ 60 → Q' (.bl (!eqD d e)) M → wpAny (model X.prog X.w) X.A (compareOp .NotEq v u) (EP X pins σ Q) X.xe s := fun p1 p2 h q => by
    obtain ⟨as, r1⟩ := Inv.rd I rd p1 rx
    obtain ⟨bs, r2⟩ := Inv.rd I re p2 ry
    exact PySem.SeqAt.ne_plain r1 r2 p1 p2 (by have : min d.py.depth e.py.depth ≤ 60 := h; omega) (fin_b I rm po q rfl)
  cases d <;> cases e <;> first
    | (obtain ⟨q1, q2, q3, q4⟩ := q; exact gen q1 q2 q3 (by rw [xor_t] at q4; exact q4))
    | (refine gen rfl rfl (by simp [D.dep, D.py, PyData.depth]) ?_; simpa [rEqn, eqD, D.py, PyData.eqv] using q)
    | (rename_i i j; refine gen rfl rfl (by simp [D.dep, D.py, PyData.depth]) ?_; have q2 : Q' (.bl (xor _ (i == j))) M := q; simp only [eqD, D.py, PyData.eqv]; first | (rw [xor_f] at q2; exact q2) | (rw [xor_t] at q2; exact q2))
    | skip
  cases rd; cases re
  obtain ⟨xs, ys, ha, hb, p1, p2, hz, q⟩ := q
  obtain ⟨vs, h1, r1⟩ := rm _ _ ha
  obtain ⟨ws, h2, r2⟩ := rm _ _ hb
  obtain ⟨as, g1⟩ := Inv.rdl I h1 r1 p1
  obtain ⟨bs, g2⟩ := Inv.rdl I h2 r2 p2
  cases rx; cases ry
  exact PySem.SeqAt.ne_plain g1 g2 (by rw [PyData.plain]; exact p1) (by rw [PyData.plain]; exact p2) (by rw [PyData.depth, PyData.depth]; have : min (PyData.depthAll (D.pys xs)) (PyData.depthAll (D.pys ys)) ≤ 60 := hz; omega) (fin_b I rm po q (by rw [xor_t, PyData.eqv]))⟩
theorem d_lt (hu : X.A.units + 64 < cLine) : D2 X (compareOp .Lt) rLt := ⟨by
  intro pins s σ H x y v u Q I rx ry ⟨d, e, M, Q', rd, re, rm, q, po⟩
  have gen : PySem.W.alike d.py e.py = true → d.py ≠ .none → d.pl → e.pl → min d.dep e.dep ≤ 60 → Q' (.bl (ltD d e)) M → wpAny (model X.prog X.w) X.A (compareOp .Lt v u) (EP X pins σ Q) X.xe s := fun al nn p1 p2 h q => by
    obtain ⟨as, r1⟩ := Inv.rd I rd p1 rx
    obtain ⟨bs, r2⟩ := Inv.rd I re p2 ry
    exact PySem.W.lt_data r1 r2 al nn (by have : min d.py.depth e.py.depth ≤ 60 := h; omega) (fin_b I rm po q rfl)
  cases d <;> cases e <;> first
    | (obtain ⟨q1, q2, q3, q4, q5, q6⟩ := q; exact gen q1 q2 q4 q5 q3 q6)
    | (refine gen rfl (by simp [D.py]) rfl rfl (by simp [D.dep, D.py, PyData.depth]) ?_; simpa [rLt, ltD, D.py, PySem.W.dataLt_int] using q)⟩
theorem d_le : D2 X (compareOp .LtE) rLe := d_i20 op_le fun _ _ _ => .bl _
theorem d_gt : D2 X (compareOp .Gt) rGt := d_i20 op_gt fun _ _ _ => .bl _
theorem d_ge : D2 X (compareOp .GtE) rGe := d_i20 op_ge fun _ _ _ => .bl _
theorem relD_isNon {K : PySem.W.Frag} {H : Hp} {d : D} {v : V} (r : RelD K H d v) : decide (v = .non) = d.isNon := by cases r <;> rfl
theorem d_is : D2 X (compareOp .Is) rIs := ⟨by
  intro pins s σ H x y v u Q I rx ry ⟨d, e, M, Q', rd, re, rm, q, po⟩
  cases re with
  | non => exact op_isN pins s σ H _ _ v u Q I rx ry ⟨rfl, po.here rm (.bl _) (by rw [relD_isNon rd]; rw [← xor_f d.isNon]; exact q)⟩
  | bl b =>
    cases rd <;> first
      | exact False.elim q
      | exact op_isBl pins s σ H _ _ v u Q I rx ry ⟨_, _, rfl, rfl, po.here rm (.bl _) (by rw [← xor_f (decide _)]; exact q)⟩
  | _ => exact False.elim q⟩
theorem d_isnot : D2 X (compareOp .IsNot) rIsNot := ⟨by
  intro pins s σ H x y v u Q I rx ry ⟨d, e, M, Q', rd, re, rm, q, po⟩
  cases re with
  | non => exact op_notN pins s σ H _ _ v u Q I rx ry ⟨rfl, po.here rm (.bl _) (by rw [relD_isNon rd]; rw [← xor_t d.isNon]; exact q)⟩
  | bl b =>
    cases rd <;> first
      | exact False.elim q
      | exact op_notBl pins s σ H _ _ v u Q I rx ry ⟨_, _, rfl, rfl, po.here rm (.bl _) (by rw [← xor_t (decide _)]; exact q)⟩
  | _ => exact False.elim q⟩
end
end MP

namespace MP
open PySem PySem.Spec PyProof.Rows L2

/-! ### statements -/
structure DEn where
  nx : Sl → Mem → Prop
  rt : D → Mem → Prop
  bk : Sl → Mem → Prop := fun _ _ => False
  ct : Sl → Mem → Prop := fun _ _ => False
structure DEn.le (A B : DEn) : Prop where
  nx : ∀ ρ M, A.nx ρ M → B.nx ρ M
  rt : ∀ d M, A.rt d M → B.rt d M
  bk : ∀ ρ M, A.bk ρ M → B.bk ρ M
  ct : ∀ ρ M, A.ct ρ M → B.ct ρ M
structure WS where
  f : DEn → Sl → Mem → Prop
  mono : ∀ A B ρ M, DEn.le A B → f A ρ M → f B ρ M
/-- a target; sl: the slots that it stores -/
structure WG where
  sl : List Nat
  f : D → Sl → Mem → (Sl → Mem → Prop) → Prop
  mono : ∀ d ρ M Q Q', (∀ ρ M, Q ρ M → Q' ρ M) → f d ρ M Q → f d ρ M Q'
structure WGs where
  sl : List Nat
  n : Nat
  f : List D → Sl → Mem → (Sl → Mem → Prop) → Prop
  mono : ∀ d ρ M Q Q', (∀ ρ M, Q ρ M → Q' ρ M) → f d ρ M Q → f d ρ M Q'
/-- what is walked: the items, and what must stand at each turn -/
structure WI where
  f : Sl → Mem → (List D → (Mem → Prop) → Mem → Prop) → Prop
  mono : ∀ ρ M Q Q', (∀ ds st M, Q ds st M → Q' ds st M) → f ρ M Q → f ρ M Q'

/-- the slots but some stand -/
def SlSame (σ σ' : L2.St) (vs : List Nat) : Prop := σ'.length = σ.length ∧ ∀ i : Nat, i ∉ vs → σ'[i]? = σ[i]?
section
variable (P : Program) (w : World) (K : PySem.W.Frag)
structure EPost (H : Hp) (M : Mem) (A : DEn) (B : Ends) : Prop where
  nx : ∀ σ ρ H' M', Step H M H' M' → RelM P w K H' M' → RelS K H' ρ σ → A.nx ρ M' → B.nx σ H'
  rt : ∀ v d H' M', Step H M H' M' → RelM P w K H' M' → RelD K H' d v → A.rt d M' → B.rt v H'
  bk : ∀ σ ρ H' M', Step H M H' M' → RelM P w K H' M' → RelS K H' ρ σ → A.bk ρ M' → B.bk σ H'
  ct : ∀ σ ρ H' M', Step H M H' M' → RelM P w K H' M' → RelS K H' ρ σ → A.ct ρ M' → B.ct σ H'
def lS (t : WS) : TS := fun B σ H => ∃ ρ M A, RelS K H ρ σ ∧ RelM P w K H M ∧ t.f A ρ M ∧ EPost P w K H M A B
def lG (t : WG) : TG := fun v σ H Q => ∃ d ρ M Q', RelD K H d v ∧ RelS K H ρ σ ∧ RelM P w K H M ∧ t.f d ρ M Q' ∧ ∀ σ' ρ' H' M', Step H M H' M' → RelM P w K H' M' → RelS K H' ρ' σ' → SlSame σ σ' t.sl → Q' ρ' M' → Q σ' H'
def lGs (t : WGs) : TGs := fun vs σ H Q => ∃ ds ρ M Q', RelDs K H ds vs ∧ RelS K H ρ σ ∧ RelM P w K H M ∧ t.f ds ρ M Q' ∧ ∀ σ' ρ' H' M', Step H M H' M' → RelM P w K H' M' → RelS K H' ρ' σ' → SlSame σ σ' t.sl → Q' ρ' M' → Q σ' H'
def ItOk (J : It) (items : List D) (stay : Mem → Prop) (H1 : Hp) : Prop :=
  ∀ i H M, Keep H1 H → RelM P w K H M → stay M → (items.length ≤ i → J.stop i H) ∧ ∀ d, items[i]? = some d → J.go i H ∧ ∀ x H', J.yld i H x H' → Step H M H' M ∧ RelM P w K H' M ∧ RelD K H' d x
def lI (t : WI) : TI := fun σ H R => ∃ ρ M Q', RelS K H ρ σ ∧ RelM P w K H M ∧ t.f ρ M Q' ∧ ∀ J items stay H' M', Step H M H' M' → RelM P w K H' M' → Q' items stay M' → ItOk P w K J items stay H' → R J H'
end
structure DS (X : Cx) (s : Stmt) (t : WS) : Prop where
  ps : PS X s (lS X.prog X.w X.K t)
structure DSs (X : Cx) (s : List Stmt) (t : WS) : Prop where
  pss : PSs X s (lS X.prog X.w X.K t)
structure DG (X : Cx) (e : Expr) (t : WG) : Prop where
  pg : PG X e (lG X.prog X.w X.K t)
structure DGs (X : Cx) (e : List Expr) (t : WGs) : Prop where
  pgs : PGs X e (lGs X.prog X.w X.K t)
structure DI (X : Cx) (tg e : Expr) (t : WI) : Prop where
  pi : PI X tg e (lI X.prog X.w X.K t)
theorem PS.imp {X : Cx} {s : Stmt} {t u : TS} (h : PS X s t) (i : ∀ D σ H, u D σ H → t D σ H) : PS X s u := ⟨fun pins s σ H D I q => h.run pins s σ H D I (i _ _ _ q)⟩
theorem PSs.imp {X : Cx} {s : List Stmt} {t u : TS} (h : PSs X s t) (i : ∀ D σ H, u D σ H → t D σ H) : PSs X s u := ⟨fun pins s σ H D I q => h.run pins s σ H D I (i _ _ _ q)⟩
theorem PG.imp {X : Cx} {e : Expr} {t u : TG} (h : PG X e t) (i : ∀ v σ H Q, u v σ H Q → t v σ H Q) : PG X e u := ⟨fun pins s σ H v uv Q I r q => h.run pins s σ H v uv Q I r (i _ _ _ _ q)⟩
theorem PGs.imp {X : Cx} {e : List Expr} {t u : TGs} (h : PGs X e t) (i : ∀ v σ H Q, u v σ H Q → t v σ H Q) : PGs X e u := ⟨fun pins s σ H v uv Q I r q => h.run pins s σ H v uv Q I r (i _ _ _ _ q)⟩
theorem PI.imp {X : Cx} {tg e : Expr} {t u : TI} (h : PI X tg e t) (i : ∀ σ H R, u σ H R → t σ H R) : PI X tg e u := ⟨fun pins s σ H R I q => h.run pins s σ H R I (i _ _ _ q)⟩
section
variable {P : Program} {w : World} {K : PySem.W.Frag} {H H' H1 : Hp} {M M' M1 : Mem} {A : DEn} {B : Ends}
theorem EPost.after (p : EPost P w K H M A B) (s : Step H M H1 M1) : EPost P w K H1 M1 A B :=
  ⟨fun σ ρ H' M' st => p.nx σ ρ H' M' (s.trans st), fun v d H' M' st => p.rt v d H' M' (s.trans st), fun σ ρ H' M' st => p.bk σ ρ H' M' (s.trans st), fun σ ρ H' M' st => p.ct σ ρ H' M' (s.trans st)⟩
theorem SlSame.refl {σ : L2.St} {vs : List Nat} : SlSame σ σ vs := ⟨rfl, fun _ _ => rfl⟩
theorem SlSame.trans {σ σ1 σ2 : L2.St} {vs ws : List Nat} (a : SlSame σ σ1 vs) (b : SlSame σ1 σ2 ws) : SlSame σ σ2 (vs ++ ws) :=
  ⟨b.1.trans a.1, fun i h => by
    rw [List.mem_append, not_or] at h
    exact (b.2 i h.2).trans (a.2 i h.1)⟩
end

def sNil : WS := ⟨fun A ρ M => A.nx ρ M, fun _ _ _ _ h q => h.nx _ _ q⟩
def sSeq (a b : WS) : WS := ⟨fun A ρ M => a.f { A with nx := b.f A } ρ M, fun A B ρ M h q => a.mono { A with nx := b.f A } { B with nx := b.f B } ρ M ⟨fun ρ M q => b.mono A B ρ M h q, h.rt, h.bk, h.ct⟩ q⟩
def sBreak : WS := ⟨fun A ρ M => A.bk ρ M, fun _ _ _ _ h q => h.bk _ _ q⟩
def sCont : WS := ⟨fun A ρ M => A.ct ρ M, fun _ _ _ _ h q => h.ct _ _ q⟩
def sDrop (e : WE) : WS := ⟨fun A ρ M => e.f ρ M fun _ M1 => A.nx ρ M1, fun _ _ _ _ h q => e.mono _ _ _ _ (fun _ _ q => h.nx _ _ q) q⟩
def sRet (e : WE) : WS := ⟨fun A ρ M => e.f ρ M A.rt, fun _ _ _ _ h q => e.mono _ _ _ _ h.rt q⟩
def sRetN : WS := ⟨fun A _ M => A.rt .non M, fun _ _ _ _ h q => h.rt _ _ q⟩
def sIf (c : WT) (a b : WS) : WS := ⟨fun A ρ M => c.f ρ M fun k M1 => (k = true → a.f A ρ M1) ∧ (k = false → b.f A ρ M1),
  fun _ _ _ _ h q => c.mono _ _ _ _ (fun _ _ q => ⟨fun e => a.mono _ _ _ _ h (q.1 e), fun e => b.mono _ _ _ _ h (q.2 e)⟩) q⟩
def gN (i : Nat) : WG := ⟨[i], fun d ρ M Q => Q (ρ.set i (some d)) M, fun _ _ _ _ _ h q => h _ _ q⟩
def gsNil : WGs := ⟨[], 0, fun ds ρ M Q => ds = [] ∧ Q ρ M, fun _ _ _ _ _ h q => ⟨q.1, h _ _ q.2⟩⟩
def gsCons (a : WG) (b : WGs) : WGs := ⟨a.sl ++ b.sl, b.n + 1, fun ds ρ M Q => ∃ d es, ds = d :: es ∧ a.f d ρ M fun ρ1 M1 => b.f es ρ1 M1 Q,
  fun _ _ _ _ _ h ⟨d, es, e, q⟩ => ⟨d, es, e, a.mono _ _ _ _ _ (fun _ _ q => b.mono _ _ _ _ _ h q) q⟩⟩
/-- (a, b, ..) = a tuple -/
def gT (t : WGs) : WG := ⟨t.sl, fun d ρ M Q => ∃ xs, d = .tup xs ∧ xs.length = t.n ∧ t.f xs ρ M Q, fun _ _ _ _ _ h ⟨xs, e, l, q⟩ => ⟨xs, e, l, t.mono _ _ _ _ _ h q⟩⟩
def sAsg (e : WE) (g : WG) : WS := ⟨fun A ρ M => e.f ρ M fun d M1 => g.f d ρ M1 A.nx, fun _ _ _ _ h q => e.mono _ _ _ _ (fun _ _ q => g.mono _ _ _ _ _ h.nx q) q⟩
def sPar (i j : Nat) (t : WA) : WS := ⟨fun A ρ M => t.f ρ M fun ds M1 => ∃ d e, ds = [d, e] ∧ A.nx ((ρ.set i (some d)).set j (some e)) M1,
  fun _ _ _ _ h q => t.mono _ _ _ _ (fun _ _ ⟨d, e, e1, q⟩ => ⟨d, e, e1, h.nx _ _ q⟩) q⟩
def sAug (i : Nat) (e : WE) (r : W2) : WS := ⟨fun A ρ M => ∃ d, ρ[i]? = some (some d) ∧ e.f ρ M fun c M1 => r.f d c M1 fun z M2 => A.nx (ρ.set i (some z)) M2,
  fun _ _ _ _ h ⟨d, e1, q⟩ => ⟨d, e1, e.mono _ _ _ _ (fun _ _ q => r.mono _ _ _ _ _ (fun _ _ q => h.nx _ _ q) q) q⟩⟩
def sWhile (c : WT) (b : WS) : WS := ⟨fun A ρ M => ∃ W : Nat → Sl → Mem → Prop, (∃ m, W m ρ M) ∧ ∀ m ρ M, W m ρ M → c.f ρ M fun k M1 =>
    (k = true → b.f { A with nx := fun ρ M => ∃ m', m' < m ∧ W m' ρ M, ct := fun ρ M => ∃ m', m' < m ∧ W m' ρ M, bk := A.nx } ρ M1) ∧ (k = false → A.nx ρ M1),
  fun A B _ _ h ⟨W, h0, hs⟩ => ⟨W, h0, fun m ρ M hw => c.mono _ _ _ _ (fun _ M1 q => ⟨fun e => b.mono { A with nx := fun ρ M => ∃ m', m' < m ∧ W m' ρ M, ct := fun ρ M => ∃ m', m' < m ∧ W m' ρ M, bk := A.nx }
      { B with nx := fun ρ M => ∃ m', m' < m ∧ W m' ρ M, ct := fun ρ M => ∃ m', m' < m ∧ W m' ρ M, bk := B.nx } ρ M1 ⟨fun _ _ q => q, h.rt, h.nx, fun _ _ q => q⟩ (q.1 e), fun e => h.nx _ _ (q.2 e)⟩) (hs m ρ M hw)⟩⟩
def loopF (g : WG) (b : WS) (stay : Mem → Prop) (A : DEn) : List D → Sl → Mem → Prop
  | [], ρ, M => stay M ∧ A.nx ρ M
  | x :: xs, ρ, M => stay M ∧ g.f x ρ M fun ρ2 M2 => b.f { A with nx := loopF g b stay A xs, ct := loopF g b stay A xs, bk := A.nx } ρ2 M2
theorem loopF_mono {g : WG} {b : WS} {stay : Mem → Prop} {A B : DEn} (h : DEn.le A B) : ∀ (xs : List D) (ρ : Sl) (M : Mem), loopF g b stay A xs ρ M → loopF g b stay B xs ρ M
  | [], ρ, M, q => ⟨q.1, h.nx _ _ q.2⟩
  | x :: xs, ρ, M, q => ⟨q.1, g.mono _ _ _ _ _ (fun ρ2 M2 q => b.mono { A with nx := loopF g b stay A xs, ct := loopF g b stay A xs, bk := A.nx } { B with nx := loopF g b stay B xs, ct := loopF g b stay B xs, bk := B.nx } ρ2 M2 ⟨loopF_mono h xs, h.rt, h.nx, loopF_mono h xs⟩ q) q.2⟩
def sFor (wi : WI) (g : WG) (b : WS) : WS := ⟨fun A ρ M => wi.f ρ M fun items stay M1 => loopF g b stay A items ρ M1, fun _ _ _ _ h q => wi.mono _ _ _ _ (fun ds st M q => loopF_mono h ds _ M q) q⟩

section
variable {X : Cx} {st : Stmt} {rest : List Stmt} {t u : WS} {e : Expr} {we : WE} {pos : Pos}
theorem dss_nil : DSs X [] sNil := ⟨PSs.imp pss_nil fun D σ H ⟨ρ, M, A, rs, rm, q, po⟩ => po.nx σ ρ H M Step.refl rm rs q⟩
theorem dss_cons (h1 : DS X st t) (h2 : DSs X rest u) : DSs X (st :: rest) (sSeq t u) :=
  ⟨PSs.imp (pss_cons h1.ps h2.pss) fun D σ H ⟨ρ, M, A, rs, rm, q, po⟩ => ⟨ρ, M, { A with nx := u.f A }, rs, rm, q, ⟨fun σ' ρ' H' M' s' m' r' q' => ⟨ρ', M', A, r', m', q', po.after s'⟩, po.rt, po.bk, po.ct⟩⟩⟩
theorem dss_one (h1 : DS X st t) : DSs X [st] t := ⟨pss_one h1.ps⟩
theorem ds_pass : DS X (.Pass pos) sNil := ⟨PS.imp ps_pass fun D σ H ⟨ρ, M, A, rs, rm, q, po⟩ => po.nx σ ρ H M Step.refl rm rs q⟩
theorem ds_break : DS X (.Break pos) sBreak := ⟨PS.imp ps_break fun D σ H ⟨ρ, M, A, rs, rm, q, po⟩ => po.bk σ ρ H M Step.refl rm rs q⟩
theorem ds_continue : DS X (.Continue pos) sCont := ⟨PS.imp ps_continue fun D σ H ⟨ρ, M, A, rs, rm, q, po⟩ => po.ct σ ρ H M Step.refl rm rs q⟩
theorem ds_doc {x j pos pos'} : DS X (.Expr (.Constant (.str x) j pos) pos') sNil := ⟨PS.imp ps_doc fun D σ H ⟨ρ, M, A, rs, rm, q, po⟩ => po.nx σ ρ H M Step.refl rm rs q⟩
theorem ds_expr (he : DE X e we) (hs : swapsWith e none pos.line X.env = pure false := by rfl) : DS X (.Expr e pos) (sDrop we) :=
  ⟨PS.imp (ps_expr he.pe hs) fun D σ H ⟨ρ, M, A, rs, rm, q, po⟩ => ⟨ρ, M, _, rs, rm, q, fun v d H' M' s' m' r' q' => po.nx σ ρ H' M' s' m' (rs.keep (s'.keep rm)) q'⟩⟩
theorem ds_ret (he : DE X e we) : DS X (.Return (some e) pos) (sRet we) :=
  ⟨PS.imp (ps_ret he.pe) fun D σ H ⟨ρ, M, A, rs, rm, q, po⟩ => ⟨ρ, M, _, rs, rm, q, fun v d H' M' s' m' r' q' => po.rt v d H' M' s' m' r' q'⟩⟩
theorem ds_retN : DS X (.Return none pos) sRetN := ⟨PS.imp ps_retN fun D σ H ⟨ρ, M, A, rs, rm, q, po⟩ => po.rt .non .non H M Step.refl rm .non q⟩
theorem ds_if {c : Expr} {a b : List Stmt} {tc : WT} (hc : DT X c tc) (ha : DSs X a t) (hb : DSs X b u) : DS X (.If c a b pos) (sIf tc t u) :=
  ⟨PS.imp (ps_if hc.pt ha.pss hb.pss) fun D σ H ⟨ρ, M, A, rs, rm, q, po⟩ => ⟨ρ, M, _, rs, rm, q, fun k H1 M1 s1 m1 q1 => by
    cases k with
    | true => exact iteT ⟨ρ, M1, A, rs.keep (s1.keep rm), m1, q1.1 rfl, po.after s1⟩
    | false => exact iteF ⟨ρ, M1, A, rs.keep (s1.keep rm), m1, q1.2 rfl, po.after s1⟩⟩⟩
theorem SlSame.set {σ : L2.St} {i : Nat} {x : Option V} : SlSame σ (σ.set i x) [i] := ⟨List.length_set, fun j hj => by
  rw [List.getElem?_set_ne]
  intro e; subst e; exact hj (List.mem_singleton.mpr rfl)⟩
theorem dg_name {i : Nat} {x : Str} (hN : X.N.Nodup) (hi : X.N[i]? = some x) (hx : Loc X.env.scope x) (hf : X.fn x = true ∨ X.env.scope.names.lookup x = some .local := by first | exact .inl rfl | exact .inr rfl | assumption) : DG X (.Name x pos) (gN i) :=
  ⟨PG.imp (pg_name hN hi hx hf) fun v σ H Q ⟨d, ρ, M, Q', rd, rs, rm, q, po⟩ => po _ _ H M Step.refl rm (rs.set i rd) SlSame.set q⟩
theorem dgs_nil : DGs X [] gsNil := ⟨PGs.imp pgs_nil fun vs σ H Q ⟨ds, ρ, M, Q', rd, rs, rm, ⟨e, q⟩, po⟩ => by
  subst e
  exact ⟨rd.nil_iff.mpr rfl, po σ ρ H M Step.refl rm rs SlSame.refl q⟩⟩
theorem dgs_cons {es : List Expr} {a : WG} {b : WGs} (h1 : DG X e a) (h2 : DGs X es b) (hs : (assignEach (e :: es) X.env).map (·.2) = assign e X.env :: (assignEach es X.env).map (·.2) := by rfl) : DGs X (e :: es) (gsCons a b) :=
  ⟨PGs.imp (pgs_cons h1.pg h2.pgs hs) fun vs σ H Q ⟨ds, ρ, M, Q', rd, rs, rm, ⟨d, ds', e, q⟩, po⟩ => by
    subst e
    cases rd with
    | cons r1 r2 => exact ⟨_, _, rfl, d, ρ, M, _, r1, rs, rm, q, fun σ1 ρ1 H1 M1 s1 m1 rs1 ss1 q1 => ⟨ds', ρ1, M1, Q', r2.keep (s1.keep rm), rs1, m1, q1, fun σ2 ρ2 H2 M2 s2 m2 rs2 ss2 q2 =>
        po σ2 ρ2 H2 M2 (s1.trans s2) m2 rs2 (ss1.trans ss2) q2⟩⟩⟩
theorem dg_tup {es : List Expr} {k : Nat} {b : WGs} (hc : X.calm = true) (h : DGs X es b) (hn : (assignEach es X.env).length = b.n := by rfl) (hst : (assignEach es X.env).findIdx? (·.1) = none := by rfl) : DG X (.Tuple es k pos) (gT b) :=
  ⟨PG.imp (pg_tup hc h.pgs hn hst) fun v σ H Q ⟨d, ρ, M, Q', rd, rs, rm, ⟨xs, e, l, q⟩, po⟩ => by
    subst e
    cases rd with
    | tup ha hr => exact ⟨_, _, rfl, ha.sq, by rw [← hr.length]; exact l, xs, ρ, M, Q', hr, rs, rm, q, po⟩⟩
theorem ds_asg {tg : Expr} {g : WG} (he : DE X e we) (hg : DG X tg g) (hs : swapsWithSole [tg] e pos.line X.env = pure false := by rfl) (hw : swappedStores [tg] e X.env = pure none := by rfl)
    (h1 : (assignEach [tg] X.env).map (·.2) = [assign tg X.env] := by rfl) : DS X (.Assign [tg] e pos) (sAsg we g) :=
  ⟨PS.imp (ps_asg he.pe hg.pg hs hw h1) fun D σ H ⟨ρ, M, A, rs, rm, q, po⟩ => ⟨ρ, M, _, rs, rm, q, fun v d H1 M1 s1 m1 r1 q1 => ⟨d, ρ, M1, _, r1, rs.keep (s1.keep rm), m1, q1, fun σ2 ρ2 H2 M2 s2 m2 r2 _ q2 => po.nx σ2 ρ2 H2 M2 (s1.trans s2) m2 r2 q2⟩⟩⟩
theorem ds_set {i : Nat} {x : Str} {pos' : Pos} (hN : X.N.Nodup) (hi : X.N[i]? = some x) (hx : Loc X.env.scope x) (he : DE X e we) (hs : swapsWith e (some (.Name x pos')) pos.line X.env = pure false := by rfl) (hf : X.fn x = true ∨ X.env.scope.names.lookup x = some .local := by first | exact .inl rfl | exact .inr rfl | assumption) :
    DS X (.Assign [.Name x pos'] e pos) (sAsg we (gN i)) :=
  ⟨PS.imp (ps_set hN hi hx he.pe hs hf) fun D σ H ⟨ρ, M, A, rs, rm, q, po⟩ => ⟨ρ, M, _, rs, rm, q, fun v d H1 M1 s1 m1 r1 q1 => po.nx _ _ H1 M1 s1 m1 ((rs.keep (s1.keep rm)).set i r1) q1⟩⟩
theorem ds_par {i j : Nat} {x y : Str} {a b : Expr} {ta : WA} {px py pt : Pos} {kt k2 pt2} (hc : X.calm = true) (hN : X.N.Nodup) (hi : X.N[i]? = some x) (hj : X.N[j]? = some y) (hij : i ≠ j)
    (hx : X.env.scope.names.lookup x = some .local) (hy : X.env.scope.names.lookup y = some .local) (ha : DA X [a, b] ta)
    (hw : swappedStores [.Tuple [.Name x px, .Name y py] kt pt] (.Tuple [a, b] k2 pt2) X.env = pure (some [x, y]))
    (hs : swapsWithSole [.Tuple [.Name x px, .Name y py] kt pt] (.Tuple [a, b] k2 pt2) pos.line X.env = pure false := by rfl) :
    DS X (.Assign [.Tuple [.Name x px, .Name y py] kt pt] (.Tuple [a, b] k2 pt2) pos) (sPar i j ta) :=
  ⟨PS.imp (ps_par hc hN hi hj hij hx hy ha.pa hw hs) fun D σ H ⟨ρ, M, A, rs, rm, q, po⟩ => ⟨ρ, M, _, rs, rm, q, fun vs ds H1 M1 s1 m1 r1 ⟨d, c, e, q1⟩ => by
    subst e
    cases r1 with
    | cons ra rr =>
      cases rr with
      | cons rb rr =>
        cases rr
        exact ⟨_, _, rfl, po.nx _ _ H1 M1 s1 m1 (((rs.keep (s1.keep rm)).set i ra).set j rb) q1⟩⟩⟩
/-- an operator as += takes it -/
structure DIp (X : Cx) (op : Operator) (r : W2) : Prop where
  ip : PIp X op (l2 X.prog X.w X.K r)
theorem ds_aug {i : Nat} {x : Str} {op : Operator} {r : W2} {pos' : Pos} (hN : X.N.Nodup) (hi : X.N[i]? = some x) (hx : Loc X.env.scope x) (he : DE X e we) (ho : DIp X op r) (hf : X.fn x = true ∨ X.env.scope.names.lookup x = some .local := by first | exact .inl rfl | exact .inr rfl | assumption) :
    DS X (.AugAssign (.Name x pos') op e pos) (sAug i we r) :=
  ⟨PS.imp (ps_aug hN hi hx he.pe ho.ip hf) fun D σ H ⟨ρ, M, A, rs, rm, ⟨d, e1, q⟩, po⟩ => by
    obtain ⟨v, h1, h2⟩ := rs.2 i d e1
    exact ⟨v, h1, ρ, M, _, rs, rm, q, fun v2 c H1 M1 s1 m1 r1 q1 => ⟨d, c, M1, _, h2.keep (s1.keep rm), r1, m1, q1, fun v3 z H2 M2 s2 m2 r2 q2 =>
      po.nx _ _ H2 M2 (s1.trans s2) m2 ((rs.keep ((s1.trans s2).keep rm)).set i r2) q2⟩⟩⟩
theorem ds_while {c : Expr} {body : List Stmt} {tc : WT} {tb : WS} (hp : PassesOwn (model X.prog X.w) X.A X.env X.xe) (hc : DT X c tc) (hb : DSs X body tb) : DS X (.While c body [] pos) (sWhile tc tb) :=
  ⟨PS.imp (ps_while hp hc.pt hb.pss) fun D σ H ⟨ρ, M, A, rs, rm, ⟨W, ⟨m0, w0⟩, turn⟩, po⟩ => by
    refine ⟨fun m σ1 H1 => ∃ ρ1 M1, Step H M H1 M1 ∧ RelM X.prog X.w X.K H1 M1 ∧ RelS X.K H1 ρ1 σ1 ∧ W m ρ1 M1, ⟨m0, ρ, M, Step.refl, rm, rs, w0⟩, ?_⟩
    rintro m σ1 H1 ⟨ρ1, M1, s1, m1, r1, w1⟩
    refine ⟨ρ1, M1, _, r1, m1, turn m ρ1 M1 w1, fun k H2 M2 s2 m2 q2 => ?_⟩
    cases k with
    | true =>
      refine iteT ⟨fun σ' H' => ∃ m', m' < m ∧ ∃ ρ' M', Step H M H' M' ∧ RelM X.prog X.w X.K H' M' ∧ RelS X.K H' ρ' σ' ∧ W m' ρ' M', fun σ' H' ⟨m', l, r⟩ => ⟨m', l, r⟩, ρ1, M2, { A with nx := fun ρ M => ∃ m', m' < m ∧ W m' ρ M, ct := fun ρ M => ∃ m', m' < m ∧ W m' ρ M, bk := A.nx }, r1.keep (s2.keep m1), m2, q2.1 rfl, ?_⟩
      exact ⟨fun σ' ρ' H' M' s' mm r' ⟨m', l, w'⟩ => ⟨m', l, ρ', M', s1.trans (s2.trans s'), mm, r', w'⟩, fun v d H' M' s' mm r' q' => po.rt v d H' M' (s1.trans (s2.trans s')) mm r' q', fun σ' ρ' H' M' s' mm r' q' => po.nx σ' ρ' H' M' (s1.trans (s2.trans s')) mm r' q',
        fun σ' ρ' H' M' s' mm r' ⟨m', l, w'⟩ => ⟨m', l, ρ', M', s1.trans (s2.trans s'), mm, r', w'⟩⟩
    | false => exact iteF (po.nx σ1 ρ1 H2 M2 (s1.trans s2) m2 (r1.keep (s2.keep m1)) (q2.2 rfl))⟩
theorem ds_for {tg iter : Expr} {body : List Stmt} {wi : WI} {g : WG} {tb : WS} (hp : PassesOwn (model X.prog X.w) X.A X.env X.xe) (hc : X.calm = true) (hi : DI X tg iter wi) (hg : DG X tg g) (hb : DSs X body tb)
    (hs : ∀ x, foldedSetIterable iter X.env x = pure x := by intro _; rfl) : DS X (.For tg iter body [] pos) (sFor wi g tb) :=
  ⟨PS.imp (ps_for hp hc hi.pi hg.pg hb.pss hs) fun D σ H ⟨ρ, M, A, rs, rm, q, po⟩ => ⟨ρ, M, _, rs, rm, q, fun J items stay H1 M1 s1 m1 q1 ok => by
    refine ⟨fun i m σ2 H2 => i + m = items.length ∧ ∃ ρ2 M2, Step H1 M1 H2 M2 ∧ RelM X.prog X.w X.K H2 M2 ∧ RelS X.K H2 ρ2 σ2 ∧ loopF g tb stay A (items.drop i) ρ2 M2, ⟨items.length, by omega, ρ, M1, Step.refl, m1, rs.keep (s1.keep rm), by rw [List.drop_zero]; exact q1⟩, ?_⟩
    rintro i m σ2 H2 ⟨hm, ρ2, M2, s2, m2, r2, q2⟩
    by_cases hi : i < items.length
    · right
      rw [List.drop_eq_getElem_cons hi] at q2
      obtain ⟨sy, q2⟩ := q2
      obtain ⟨_, k2⟩ := ok i H2 M2 (s2.keep m1) m2 sy
      obtain ⟨go, yl⟩ := k2 _ (List.getElem?_eq_getElem hi)
      refine ⟨go, fun σ' H' => ∃ ρ' M', Step H1 M1 H' M' ∧ RelM X.prog X.w X.K H' M' ∧ RelS X.K H' ρ' σ' ∧ loopF g tb stay A (items.drop (i + 1)) ρ' M', fun σ' H' h => ⟨m - 1, by omega, by omega, h⟩, fun x H' hy => ?_⟩
      obtain ⟨s3, m3, r3⟩ := yl x H' hy
      refine ⟨_, ρ2, M2, _, r3, r2.keep (s3.keep m2), m3, q2, fun σ4 ρ4 H4 M4 s4 m4 r4 _ q4 => ⟨ρ4, M4, { A with nx := loopF g tb stay A (items.drop (i + 1)), ct := loopF g tb stay A (items.drop (i + 1)), bk := A.nx }, r4, m4, q4, ?_⟩⟩
      have s14 := s2.trans (s3.trans s4)
      exact ⟨fun σ' ρ' H' M' s' mm r' q' => ⟨ρ', M', s14.trans s', mm, r', q'⟩, fun v d H' M' s' mm r' q' => po.rt v d H' M' (s1.trans (s14.trans s')) mm r' q', fun σ' ρ' H' M' s' mm r' q' => po.nx σ' ρ' H' M' (s1.trans (s14.trans s')) mm r' q',
        fun σ' ρ' H' M' s' mm r' q' => ⟨ρ', M', s14.trans s', mm, r', q'⟩⟩
    · left
      rw [List.drop_of_length_le (by omega)] at q2
      obtain ⟨sy, q2⟩ := q2
      exact ⟨(ok i H2 M2 (s2.keep m1) m2 sy).1 (by omega), po.nx σ2 ρ2 H2 M2 (s1.trans s2) m2 r2 q2⟩⟩⟩
end
end MP

namespace MP
open PySem PySem.Spec PyProof.Rows L2

/-! ### what is walked -/
def strD (z : Str) : List D := z.cps.toList.map fun c => .str ⟨#[c]⟩
/-- a tuple, a list, a text (a dict: MPg) by its value -/
def iSeqF (d : D) (M : Mem) (Q : List D → (Mem → Prop) → Mem → Prop) : Prop := match d with
  | .tup xs => Q xs (fun _ => True) M
  | .fl xs => Q xs (fun _ => True) M
  | .str z => Q (strD z) (fun _ => True) M
  | .ref a => ∃ xs, M a = some (.lst xs) ∧ Q xs (fun M => M a = some (.lst xs)) M
  | _ => False
def iSeq (e : WE) : WI := ⟨fun ρ M Q => e.f ρ M fun d M1 => iSeqF d M1 Q, fun ρ M Q Q' h q => e.mono _ _ _ _ (fun d M q => by
  cases d <;> first | exact q.elim | exact h _ _ _ q | (obtain ⟨xs, e, q⟩ := q; exact ⟨xs, e, h _ _ _ q⟩)) q⟩
def rngD (lo : Int) (n : Nat) : List D := (List.range n).map fun i => .int (lo + (i : Nat))
def iR1 (t : WA) : WI := ⟨fun ρ M Q => t.f ρ M fun ds M1 => ∃ j : Int, ds = [.int j] ∧ j < 2 ^ 62 ∧ -(2 ^ 62) ≤ j ∧ Q (rngD 0 j.toNat) (fun _ => True) M1,
  fun ρ M Q Q' h q => t.mono _ _ _ _ (fun _ _ ⟨j, e, h1, h2, q⟩ => ⟨j, e, h1, h2, h _ _ _ q⟩) q⟩
def iR2 (t : WA) : WI := ⟨fun ρ M Q => t.f ρ M fun ds M1 => ∃ i j : Int, ds = [.int i, .int j] ∧ (-(2 ^ 62) ≤ i ∧ i < 2 ^ 62 ∧ -(2 ^ 62) ≤ j ∧ j < 2 ^ 62) ∧ Q (rngD i (j - i).toNat) (fun _ => True) M1,
  fun ρ M Q Q' h q => t.mono _ _ _ _ (fun _ _ ⟨i, j, e, h1, q⟩ => ⟨i, j, e, h1, h _ _ _ q⟩) q⟩
def enumD (i : Nat) : List D → List D
  | [] => []
  | x :: xs => .tup [.int (i : Nat), x] :: enumD (i + 1) xs
def iEnumL (t : WA) : WI := ⟨fun ρ M Q => t.f ρ M fun ds M1 => ∃ a xs, ds = [.ref a] ∧ M1 a = some (.lst xs) ∧ Q (enumD 0 xs) (fun M => M a = some (.lst xs)) M1,
  fun ρ M Q Q' h q => t.mono _ _ _ _ (fun _ _ ⟨i, j, e, h1, q⟩ => ⟨i, j, e, h1, h _ _ _ q⟩) q⟩
def zipD : List D → List D → List D
  | x :: xs, y :: ys => .tup [x, y] :: zipD xs ys
  | _, _ => []
/-- zip of two tuples, of two lists -/
def iZipF (ds : List D) (M : Mem) (Q : List D → (Mem → Prop) → Mem → Prop) : Prop := match ds with
  | [.tup xs, .tup ys] => Q (zipD xs ys) (fun _ => True) M
  | [.ref a, .ref b] => ∃ xs ys, M a = some (.lst xs) ∧ M b = some (.lst ys) ∧ Q (zipD xs ys) (fun M => M a = some (.lst xs) ∧ M b = some (.lst ys)) M
  | _ => False
theorem iZipF_mono {ds : List D} {M : Mem} {Q Q' : List D → (Mem → Prop) → Mem → Prop} (h : ∀ ds st M, Q ds st M → Q' ds st M) (q : iZipF ds M Q) : iZipF ds M Q' := by
  unfold iZipF at q ⊢
  split at q
  · exact h _ _ _ q
  · obtain ⟨xs, ys, e1, e2, q⟩ := q; exact ⟨xs, ys, e1, e2, h _ _ _ q⟩
  · exact q.elim
def iZipW (t : WA) : WI := ⟨fun ρ M Q => t.f ρ M fun ds M1 => iZipF ds M1 Q, fun ρ M Q Q' h q => t.mono _ _ _ _ (fun _ _ q => iZipF_mono h q) q⟩
section
variable {P : Program} {w : World} {K : PySem.W.Frag} {H : Hp}
theorem itok_tup {a : Addr} {ds : List D} {xs : List V} (h : TupAt K H a xs) (r : RelDs K H ds xs) : ItOk P w K (Itt K a) ds (fun _ => True) H := fun i H1 M1 k m1 _ => by
  have h1 := (h.keep k).sq
  have r1 := r.keep k
  refine ⟨fun hi => ⟨xs, h1, by rw [← r.length]; exact hi⟩, fun d hd => ?_⟩
  obtain ⟨v, hv, rv⟩ := r1.get hd
  refine ⟨⟨xs, v, h1, hv⟩, fun x H' hy => ?_⟩
  obtain ⟨e, y⟩ := hy
  subst e
  have := y xs h1
  rw [hv] at this
  cases this
  exact ⟨Step.refl, m1, rv⟩
theorem itok_fl {a : Addr} {ds : List D} {xs : List V} (h : FlAt K H a xs) (r : RelDs K H ds xs) : ItOk P w K (Itl K a) ds (fun _ => True) H := fun i H1 M1 k m1 _ => by
  have h1 := (h.keep k).sq
  have r1 := r.keep k
  refine ⟨fun hi => ⟨xs, h1, by rw [← r.length]; exact hi⟩, fun d hd => ?_⟩
  obtain ⟨v, hv, rv⟩ := r1.get hd
  refine ⟨⟨xs, v, h1, hv⟩, fun x H' hy => ?_⟩
  obtain ⟨e, y⟩ := hy
  subst e
  have := y xs h1
  rw [hv] at this
  cases this
  exact ⟨Step.refl, m1, rv⟩
theorem itok_lst {a : Addr} {ds : List D} : ItOk P w K (Itl K a) ds (fun M => M a = some (.lst ds)) H := fun i H1 M1 k m1 st => by
  obtain ⟨xs, h, r⟩ := m1 a _ st
  have h1 : SqL K H1 a xs := .inl (.inl h)
  refine ⟨fun hi => ⟨xs, h1, by rw [← r.length]; exact hi⟩, fun d hd => ?_⟩
  obtain ⟨v, hv, rv⟩ := r.get hd
  refine ⟨⟨xs, v, h1, hv⟩, fun x H' hy => ?_⟩
  obtain ⟨e, y⟩ := hy
  subst e
  have := y xs h1
  rw [hv] at this
  cases this
  exact ⟨Step.refl, m1, rv⟩
theorem itok_str {z : Str} : ItOk P w K (Its z) (strD z) (fun _ => True) H := fun i H1 M1 k m1 _ => by
  have hl : (strD z).length = z.cps.size := by simp [strD]
  refine ⟨fun hi => by rw [hl] at hi; exact hi, fun d hd => ?_⟩
  have hi : i < z.cps.size := by rw [← hl]; exact (List.getElem?_eq_some_iff.mp hd).1
  refine ⟨hi, fun x H' hy => ?_⟩
  obtain ⟨e, c, hc, ex⟩ := hy
  subst e ex
  have e2 : d = .str ⟨#[c]⟩ := by
    rw [strD, List.getElem?_map, Array.getElem?_toList, hc] at hd
    exact (Option.some.inj hd).symm
  subst e2
  exact ⟨Step.refl, m1, .str _⟩
theorem rngD_get {lo : Int} {n i : Nat} {d : D} (h : (rngD lo n)[i]? = some d) : i < n ∧ d = .int (lo + (i : Nat)) := by
  have hl : (rngD lo n).length = n := by simp [rngD]
  have hi : i < n := by have := (List.getElem?_eq_some_iff.mp h).1; rw [hl] at this; exact this
  refine ⟨hi, ?_⟩
  rw [rngD, List.getElem?_map, List.getElem?_range hi] at h
  exact (Option.some.inj h).symm
theorem itok_range {lo : Int} {n : Nat} : ItOk P w K (Itr lo n) (rngD lo n) (fun _ => True) H := fun i H1 M1 k m1 _ => by
  refine ⟨fun hi => (by simpa [rngD] using hi : n ≤ i), fun d hd => ?_⟩
  obtain ⟨hi, e⟩ := rngD_get hd
  refine ⟨hi, fun x H' hy => ?_⟩
  obtain ⟨e1, e2⟩ := hy
  subst e e1 e2
  exact ⟨Step.refl, m1, .int _⟩
theorem enumD_length : ∀ (xs : List D) (i : Nat), (enumD i xs).length = xs.length
  | [], _ => rfl
  | x :: xs, i => by rw [enumD, List.length_cons, List.length_cons, enumD_length xs]
theorem enumD_get : ∀ (xs : List D) (k i : Nat), (enumD k xs)[i]? = (xs[i]?).map fun x => .tup [.int ((k + i : Nat)), x]
  | [], _, _ => by simp [enumD]
  | x :: xs, k, 0 => by simp [enumD]
  | x :: xs, k, i + 1 => by
    rw [enumD, List.getElem?_cons_succ, List.getElem?_cons_succ, enumD_get xs (k + 1) i, show k + 1 + i = k + (i + 1) by omega]
theorem new_tup {M : Mem} (m : RelM P w K H M) {T : Addr} (hT : H T = none) {ds : List D} {xs : List V} (r : RelDs K H ds xs) : Step H M (upd H T (.tup xs)) M ∧ RelM P w K (upd H T (.tup xs)) M ∧ RelD K (upd H T (.tup xs)) (.tup ds) (.ref T) :=
  ⟨Step.beside hT, m.beside hT, .tup (.inl upd_same) (r.keep (keep_new hT))⟩
theorem itok_enum {a : Addr} {ds : List D} : ItOk P w K (Ite K a) (enumD 0 ds) (fun M => M a = some (.lst ds)) H := fun i H1 M1 k m1 st => by
  obtain ⟨xs, h, r⟩ := m1 a _ st
  have h1 : SqL K H1 a xs := .inl (.inl h)
  refine ⟨fun hi => ⟨xs, h1, by rw [← r.length]; rw [enumD_length] at hi; exact hi⟩, fun d hd => ?_⟩
  rw [enumD_get, Nat.zero_add] at hd
  obtain ⟨y, hy, e⟩ := Option.map_eq_some_iff.mp hd
  subst e
  obtain ⟨v, hv, rv⟩ := r.get hy
  refine ⟨⟨xs, v, h1, hv⟩, fun x H' hyl => ?_⟩
  obtain ⟨T, x', e1, hT, e2, q⟩ := hyl
  subst e1 e2
  have := q xs h1
  rw [hv] at this
  cases this
  exact new_tup m1 hT (.cons (.int _) (.cons rv .nil))
theorem zipD_get : ∀ (xs ys : List D) (i : Nat) (d : D), (zipD xs ys)[i]? = some d → ∃ x y, xs[i]? = some x ∧ ys[i]? = some y ∧ d = .tup [x, y]
  | [], _, _, _, h => by simp [zipD] at h
  | _ :: _, [], _, _, h => by simp [zipD] at h
  | x :: xs, y :: ys, 0, d, h => by simp [zipD] at h; subst h; exact ⟨x, y, rfl, rfl, rfl⟩
  | x :: xs, y :: ys, i + 1, d, h => by
    rw [zipD, List.getElem?_cons_succ] at h
    obtain ⟨a, b, h1, h2, h3⟩ := zipD_get xs ys i d h
    exact ⟨a, b, by simpa using h1, by simpa using h2, h3⟩
theorem zipD_length : ∀ (xs ys : List D), (zipD xs ys).length = min xs.length ys.length
  | [], ys => by simp [zipD]
  | _ :: _, [] => by simp [zipD]
  | x :: xs, y :: ys => by rw [zipD, List.length_cons, List.length_cons, List.length_cons, zipD_length xs ys]; omega
theorem itok_zipT {a b : Addr} {ds es : List D} {xs ys : List V} (h : TupAt K H a xs) (r : RelDs K H ds xs) (h' : TupAt K H b ys) (r' : RelDs K H es ys) : ItOk P w K (RZ.ItzT K a b) (zipD ds es) (fun _ => True) H := fun i H1 M1 k m1 _ => by
  have h1 := (h.keep k).sq
  have r1 := r.keep k
  have h2 := (h'.keep k).sq
  have r2 := r'.keep k
  refine ⟨fun hi => ⟨xs, ys, h1, h2, by rw [← r.length, ← r'.length]; rw [zipD_length] at hi; omega⟩, fun d hd => ?_⟩
  obtain ⟨x, y, hx, hy, e⟩ := zipD_get _ _ _ _ hd
  subst e
  obtain ⟨v, hv, rv⟩ := r1.get hx
  obtain ⟨u, hu, ru⟩ := r2.get hy
  refine ⟨⟨xs, ys, v, u, h1, h2, hv, hu⟩, fun z H' hyl => ?_⟩
  obtain ⟨T, x', y', e1, hT, e2, q1, q2⟩ := hyl
  subst e1 e2
  have z1 := q1 xs h1
  have z2 := q2 ys h2
  rw [hv] at z1; cases z1
  rw [hu] at z2; cases z2
  exact new_tup m1 hT (.cons rv (.cons ru .nil))
theorem itok_zipL {a b : Addr} {ds es : List D} : ItOk P w K (Itz K a b) (zipD ds es) (fun M => M a = some (.lst ds) ∧ M b = some (.lst es)) H := fun i H1 M1 k m1 st => by
  obtain ⟨xs, h, r⟩ := m1 a _ st.1
  obtain ⟨ys, h', r'⟩ := m1 b _ st.2
  have h1 : SqL K H1 a xs := .inl (.inl h)
  have h2 : SqL K H1 b ys := .inl (.inl h')
  refine ⟨fun hi => ⟨xs, ys, h1, h2, by rw [← r.length, ← r'.length]; rw [zipD_length] at hi; omega⟩, fun d hd => ?_⟩
  obtain ⟨x, y, hx, hy, e⟩ := zipD_get _ _ _ _ hd
  subst e
  obtain ⟨v, hv, rv⟩ := r.get hx
  obtain ⟨u, hu, ru⟩ := r'.get hy
  refine ⟨⟨xs, ys, v, u, h1, h2, hv, hu⟩, fun z H' hyl => ?_⟩
  obtain ⟨T, x', y', e1, hT, e2, q1, q2⟩ := hyl
  subst e1 e2
  have z1 := q1 xs h1
  have z2 := q2 ys h2
  rw [hv] at z1; cases z1
  rw [hu] at z2; cases z2
  exact new_tup m1 hT (.cons rv (.cons ru .nil))
end
section
variable {X : Cx} {tg l : Expr} {we : WE}
theorem di_seq (hl : DE X l we) : DI X tg l (iSeq we) := ⟨⟨fun pins s σ H R I ⟨ρ, M, Q', rs, rm, q, po⟩ => by
  refine thn (hl.pe.run pins s σ H (fun v H1 => ∃ d M1, Step H M H1 M1 ∧ RelM X.prog X.w X.K H1 M1 ∧ RelD X.K H1 d v ∧ iSeqF d M1 Q') I ⟨ρ, M, _, rs, rm, q, fun v d H1 M1 s1 m1 r1 q1 => ⟨d, M1, s1, m1, r1, q1⟩⟩) fun u s1 ⟨x, H1, I1, r1, d, M1, st1, m1, rd, q1⟩ => ?_
  have tup : ∀ {ds : List D} {a : Addr} {xs : List V}, TupAt X.K H1 a xs → RelDs X.K H1 ds xs → u = .ref a → Q' ds (fun _ => True) M1 → wpAny (model X.prog X.w) X.A (pyIter u) (PIE X pins σ tg R) X.xe s1 := fun {ds a xs} ht hr e q2 => by
    subst e
    obtain ⟨its, rv, p, hz⟩ := I1.tuple ht.sq
    refine wpAny_pyIter_tuple (show s1.heap.IsTuple a its.toArray from p) ?_
    exact pi_one (tk := s1.toks) I1 _ (turn_tuple a _) ⟨_, Heap.get?_push_size _ rfl, rfl, rfl⟩ (po _ _ _ H1 M1 st1 m1 q2 (itok_tup ht hr))
  have lst : ∀ {ds : List D} {a : Addr} {xs : List V} {stay : Mem → Prop}, SqL X.K H1 a xs → u = .ref a → Q' ds stay M1 → ItOk X.prog X.w X.K (Itl X.K a) ds stay H1 → wpAny (model X.prog X.w) X.A (pyIter u) (PIE X pins σ tg R) X.xe s1 := fun {ds a xs stay} ht e q2 ok => by
    subst e
    obtain ⟨its, rv, p, hz⟩ := I1.list ht
    refine wpAny_pyIter_list p.isList ?_
    exact pi_one (tk := s1.toks) I1 _ (turn_list a _) ⟨_, Heap.get?_push_size _ rfl, rfl, rfl⟩ (po _ _ _ H1 M1 st1 m1 q2 ok)
  cases rd with
  | tup ht hr => exact tup ht hr r1 q1
  | fl ht hr => exact lst ht.sq r1 q1 (itok_fl ht hr)
  | ref a =>
    obtain ⟨xs, e, q2⟩ := q1
    obtain ⟨vs, h, r⟩ := m1 a _ e
    exact lst (.inl (.inl h)) r1 q2 itok_lst
  | str z =>
    obtain ⟨t, rfl⟩ := r1
    cases ha : z.cps.all (· < 128)
    · exact wpAny_pyIter_wide ha (pi_one (tk := s1.toks) I1 _ (turn_str _ z t "str_iterator" (.inr rfl)) ⟨_, Heap.get?_push_size _ rfl, rfl, rfl⟩ (po _ _ _ H1 M1 st1 m1 q1 itok_str))
    · exact wpAny_pyIter_ascii ha (pi_one (tk := s1.toks) I1 _ (turn_str _ z t "str_ascii_iterator" (.inl rfl)) ⟨_, Heap.get?_push_size _ rfl, rfl, rfl⟩ (po _ _ _ H1 M1 st1 m1 q1 itok_str))
  | _ => exact False.elim q1⟩⟩
theorem rel1 {K : PySem.W.Frag} {H : Hp} {d : D} {vs : List V} (r : RelDs K H [d] vs) : ∃ v, vs = [v] ∧ RelD K H d v := by
  cases r with
  | cons a b => cases b; exact ⟨_, rfl, a⟩
theorem rel2 {K : PySem.W.Frag} {H : Hp} {d e : D} {vs : List V} (r : RelDs K H [d, e] vs) : ∃ v u, vs = [v, u] ∧ RelD K H d v ∧ RelD K H e u := by
  cases r with
  | cons a b =>
    obtain ⟨u, rfl, c⟩ := rel1 b
    exact ⟨_, _, rfl, a, c⟩
theorem rel_int {K : PySem.W.Frag} {H : Hp} {i : Int} {v : V} (r : RelD K H (.int i) v) : v = .int i := by cases r; rfl
theorem rel_ref {K : PySem.W.Frag} {H : Hp} {i : Addr} {v : V} (r : RelD K H (.ref i) v) : v = .ref i := by cases r; rfl
theorem rel_str {K : PySem.W.Frag} {H : Hp} {i : Str} {v : V} (r : RelD K H (.str i) v) : v = .str i := by cases r; rfl
theorem di_range1 {a : Expr} {t : WA} {p pos : Pos} (hg : Gl X "range") (hm : X.mg "range" = none) (ha : DA X [a] t) (hs : starEach [a] X.env = [(false, eval a X.env)] := by rfl) : DI X tg (.Call (.Name "range" p) [a] [] pos) (iR1 t) :=
  ⟨PI.imp (pi_range1 hg hm ha.pa hs) fun σ H R ⟨ρ, M, Q', rs, rm, q, po⟩ => ⟨ρ, M, _, rs, rm, q, fun vs ds H1 M1 s1 m1 r1 ⟨j, e, h1, h2, q1⟩ => by
    subst e
    obtain ⟨v, rfl, rv⟩ := rel1 r1
    exact ⟨j, by rw [rel_int rv], h2, h1, po _ _ _ H1 M1 s1 m1 q1 itok_range⟩⟩⟩
theorem di_range2 {a b : Expr} {t : WA} {p pos : Pos} (hg : Gl X "range") (hm : X.mg "range" = none) (ha : DA X [a, b] t) (hs : starEach [a, b] X.env = [(false, eval a X.env), (false, eval b X.env)] := by rfl) (hs2 : starEach [b] X.env = [(false, eval b X.env)] := by rfl) :
    DI X tg (.Call (.Name "range" p) [a, b] [] pos) (iR2 t) :=
  ⟨PI.imp (pi_range2 hg hm ha.pa hs hs2) fun σ H R ⟨ρ, M, Q', rs, rm, q, po⟩ => ⟨ρ, M, _, rs, rm, q, fun vs ds H1 M1 s1 m1 r1 ⟨i, j, e, h1, q1⟩ => by
    subst e
    obtain ⟨v, u, rfl, rv, ru⟩ := rel2 r1
    exact ⟨i, j, by rw [rel_int rv, rel_int ru], h1, po _ _ _ H1 M1 s1 m1 q1 itok_range⟩⟩⟩
theorem di_enumL {e : Expr} {t : WA} {p pos tpos : Pos} {elts : List Expr} {kk : Nat} (hg : Gl X "enumerate") (hm : X.mg "enumerate" = none) (ha : DA X [e] t) (hs : starEach [e] X.env = [(false, eval e X.env)] := by rfl) :
    DI X (.Tuple elts kk tpos) (.Call (.Name "enumerate" p) [e] [] pos) (iEnumL t) :=
  ⟨PI.imp (pi_enum hg hm ha.pa hs) fun σ H R ⟨ρ, M, Q', rs, rm, q, po⟩ => ⟨ρ, M, _, rs, rm, q, fun vs ds H1 M1 s1 m1 r1 ⟨a, xs, e, h1, q1⟩ => by
    subst e
    obtain ⟨v, rfl, rv⟩ := rel1 r1
    obtain ⟨ws, h, r⟩ := m1 a _ h1
    exact ⟨a, ws, by rw [rel_ref rv], .inl (.inl h), po _ _ _ H1 M1 s1 m1 q1 itok_enum⟩⟩⟩
theorem di_zip {e e2 : Expr} {t : WA} {p pos tpos : Pos} {elts : List Expr} {kk : Nat} (hg : Gl X "zip") (hm : X.mg "zip" = none) (ha : DA X [e, e2] t)
    (hs : starEach [e, e2] X.env = (false, eval e X.env) :: starEach [e2] X.env := by rfl) (hpl : (backTo pos (starEach [e2] X.env)).any (·.1) = false := by rfl) :
    DI X (.Tuple elts kk tpos) (.Call (.Name "zip" p) [e, e2] [] pos) (iZipW t) :=
  ⟨PI.imp (RZ.pi_zipA hg hm ha.pa hs hpl) fun σ H R ⟨ρ, M, Q', rs, rm, q, po⟩ => ⟨ρ, M, _, rs, rm, q, fun vs ds H1 M1 s1 m1 r1 q1 => by
    unfold iZipF at q1
    split at q1
    · obtain ⟨v, u, rfl, rv, ru⟩ := rel2 r1
      cases rv with
      | tup h1 g1 =>
        cases ru with
        | tup h2 g2 => exact ⟨_, _, _, _, rfl, .inr ⟨h1.sq, h2.sq, po _ _ _ H1 M1 s1 m1 q1 (itok_zipT h1 g1 h2 g2)⟩⟩
    · obtain ⟨v, u, rfl, rv, ru⟩ := rel2 r1
      obtain ⟨xs, ys, e1, e2, q1⟩ := q1
      obtain ⟨ws, h1, g1⟩ := m1 _ _ e1
      obtain ⟨zs, h2, g2⟩ := m1 _ _ e2
      exact ⟨_, _, ws, zs, by rw [rel_ref rv, rel_ref ru], .inl ⟨.inl (.inl h1), .inl (.inl h2), po _ _ _ H1 M1 s1 m1 q1 itok_zipL⟩⟩
    · exact q1.elim⟩⟩
end

/-! ### comprehensions -/
def wipeD (ρ : Sl) : List Nat → Sl
  | [] => ρ
  | v :: vs => (wipeD ρ vs).set v none
theorem RelS.unset {K : PySem.W.Frag} {H : Hp} {ρ : Sl} {σ : L2.St} (r : RelS K H ρ σ) (i : Nat) : RelS K H (ρ.set i none) (σ.set i none) := by
  refine ⟨by rw [List.length_set, List.length_set]; exact r.1, fun j e he => ?_⟩
  by_cases hj : i = j
  · subst hj
    by_cases hi : i < ρ.length
    · rw [List.getElem?_set_self hi] at he; cases he
    · rw [List.getElem?_eq_none (by rw [List.length_set]; omega)] at he; cases he
  · rw [List.getElem?_set_ne hj] at he
    obtain ⟨u, h1, h2⟩ := r.2 j e he
    exact ⟨u, by rw [List.getElem?_set_ne hj]; exact h1, h2⟩
theorem RelS.wipe {K : PySem.W.Frag} {H : Hp} {ρ : Sl} {σ : L2.St} (r : RelS K H ρ σ) : ∀ vs : List Nat, RelS K H (wipeD ρ vs) (wipe σ vs)
  | [] => r
  | v :: vs => (RelS.wipe r vs).unset v
theorem wipe_get {σ : L2.St} : ∀ (vs : List Nat) (i : Nat), (wipe σ vs)[i]? = if i ∈ vs then (if i < σ.length then some none else none) else σ[i]?
  | [], i => by simp [wipe]
  | v :: vs, i => by
    unfold wipe
    by_cases hv : v = i
    · subst hv
      rw [if_pos (List.mem_cons_self ..)]
      by_cases hl : v < σ.length
      · rw [List.getElem?_set_self (by rw [wipe_length]; exact hl), if_pos hl]
      · rw [List.getElem?_eq_none (by rw [List.length_set, wipe_length]; omega), if_neg hl]
    · rw [List.getElem?_set_ne hv, wipe_get vs i]
      by_cases hm : i ∈ vs
      · rw [if_pos hm, if_pos (List.mem_cons_of_mem _ hm)]
      · rw [if_neg hm, if_neg]
        simp only [List.mem_cons, not_or]; exact ⟨fun e => hv e.symm, hm⟩
theorem wipe_same {σ σ2 : L2.St} {vs sl : List Nat} (h : SlSame (wipe σ vs) σ2 sl) (hs : ∀ i ∈ sl, i ∈ vs) : wipe σ2 vs = wipe σ vs := by
  have hl : σ2.length = σ.length := by rw [h.1, wipe_length]
  apply List.ext_getElem?
  intro i
  rw [wipe_get, wipe_get]
  by_cases hi : i ∈ vs
  · rw [if_pos hi, if_pos hi, hl]
  · rw [if_neg hi, if_neg hi]
    have := h.2 i fun z => hi (hs i z)
    rw [this, wipe_get, if_neg hi]
def lcF (g : WG) (tt : WT) (te : WE) (stay : Mem → Prop) (ρ : Sl) (Q : D → Mem → Prop) : List D → List D → Mem → Prop
  | [], acc, M => stay M ∧ ∀ p, M p = none → Q (.ref p) (mupd M p (.lst acc))
  | x :: xs, acc, M => stay M ∧ g.f x ρ M fun ρ2 M2 => tt.f ρ2 M2 fun b M3 => (b = true → te.f ρ2 M3 fun y M4 => acc.length < sizeLine ∧ lcF g tt te stay ρ Q xs (acc ++ [y]) M4) ∧ (b = false → lcF g tt te stay ρ Q xs acc M3)
theorem lcF_mono {g : WG} {tt : WT} {te : WE} {stay : Mem → Prop} {ρ : Sl} {Q Q' : D → Mem → Prop} (h : ∀ d M, Q d M → Q' d M) : ∀ (xs acc : List D) (M : Mem), lcF g tt te stay ρ Q xs acc M → lcF g tt te stay ρ Q' xs acc M
  | [], _, _, q => ⟨q.1, fun p hp => h _ _ (q.2 p hp)⟩
  | x :: xs, acc, M, q => ⟨q.1, g.mono _ _ _ _ _ (fun ρ2 M2 q => tt.mono _ _ _ _ (fun b M3 q => ⟨fun e => te.mono _ _ _ _ (fun y M4 q => ⟨q.1, lcF_mono h xs _ _ q.2⟩) (q.1 e), fun e => lcF_mono h xs _ _ (q.2 e)⟩) q) q.2⟩
def wLc (wi : WI) (g : WG) (tt : WT) (te : WE) (vs : List Nat) : WE := ⟨fun ρ M Q => wi.f ρ M fun items stay M1 => lcF g tt te stay (wipeD ρ vs) Q items [] M1,
  fun ρ M Q Q' h q => wi.mono _ _ _ _ (fun ds st M q => lcF_mono h ds [] M q) q⟩
def wtYes : WT := ⟨fun _ M Q => Q true M, fun _ _ _ _ h q => h _ _ q⟩
/-- two clauses: the inner walk is made anew in each turn of the outer one -/
def lc2G (g1 : WG) (tt1 : WT) (te : WE) (stay : Mem → Prop) (ρ : Sl) (N : List D → Mem → Prop) : List D → List D → Mem → Prop
  | [], acc, M => stay M ∧ N acc M
  | x :: xs, acc, M => stay M ∧ g1.f x ρ M fun ρ2 M2 => tt1.f ρ2 M2 fun b M3 => (b = true → te.f ρ2 M3 fun y M4 => acc.length < sizeLine ∧ lc2G g1 tt1 te stay ρ N xs (acc ++ [y]) M4) ∧ (b = false → lc2G g1 tt1 te stay ρ N xs acc M3)
theorem lc2G_mono {g : WG} {tt : WT} {te : WE} {stay : Mem → Prop} {ρ : Sl} {N N' : List D → Mem → Prop} (h : ∀ d M, N d M → N' d M) : ∀ (xs acc : List D) (M : Mem), lc2G g tt te stay ρ N xs acc M → lc2G g tt te stay ρ N' xs acc M
  | [], _, _, q => ⟨q.1, h _ _ q.2⟩
  | x :: xs, acc, M, q => ⟨q.1, g.mono _ _ _ _ _ (fun ρ2 M2 q => tt.mono _ _ _ _ (fun b M3 q => ⟨fun e => te.mono _ _ _ _ (fun y M4 q => ⟨q.1, lc2G_mono h xs _ _ q.2⟩) (q.1 e), fun e => lc2G_mono h xs _ _ (q.2 e)⟩) q) q.2⟩
def lc2F (g : WG) (tt : WT) (wi1 : WI) (g1 : WG) (tt1 : WT) (te : WE) (vs1 : List Nat) (stay : Mem → Prop) (ρ : Sl) (Q : D → Mem → Prop) : List D → List D → Mem → Prop
  | [], acc, M => stay M ∧ ∀ p, M p = none → Q (.ref p) (mupd M p (.lst acc))
  | x :: xs, acc, M => stay M ∧ g.f x ρ M fun ρ2 M2 => tt.f ρ2 M2 fun b M3 => (b = true → wi1.f ρ2 M3 fun items1 stay1 M4 => lc2G g1 tt1 te stay1 (wipeD ρ2 vs1) (fun acc M => lc2F g tt wi1 g1 tt1 te vs1 stay ρ Q xs acc M) items1 acc M4) ∧ (b = false → lc2F g tt wi1 g1 tt1 te vs1 stay ρ Q xs acc M3)
theorem lc2F_mono {g : WG} {tt : WT} {wi1 : WI} {g1 : WG} {tt1 : WT} {te : WE} {vs1 : List Nat} {stay : Mem → Prop} {ρ : Sl} {Q Q' : D → Mem → Prop} (h : ∀ d M, Q d M → Q' d M) : ∀ (xs acc : List D) (M : Mem), lc2F g tt wi1 g1 tt1 te vs1 stay ρ Q xs acc M → lc2F g tt wi1 g1 tt1 te vs1 stay ρ Q' xs acc M
  | [], _, _, q => ⟨q.1, fun p hp => h _ _ (q.2 p hp)⟩
  | x :: xs, acc, M, q => ⟨q.1, g.mono _ _ _ _ _ (fun ρ2 M2 q => tt.mono _ _ _ _ (fun b M3 q => ⟨fun e => wi1.mono _ _ _ _ (fun ds st M q => lc2G_mono (fun acc M q => lc2F_mono h xs acc M q) ds acc M q) (q.1 e), fun e => lc2F_mono h xs _ _ (q.2 e)⟩) q) q.2⟩
def wLc2 (wi : WI) (g : WG) (tt : WT) (wi1 : WI) (g1 : WG) (tt1 : WT) (te : WE) (vs vs1 : List Nat) : WE := ⟨fun ρ M Q => wi.f ρ M fun items stay M1 => lc2F g tt wi1 g1 tt1 te vs1 stay (wipeD ρ vs) Q items [] M1,
  fun ρ M Q Q' h q => wi.mono _ _ _ _ (fun ds st M q => lc2F_mono h ds [] M q) q⟩
section
variable {P : Program} {w : World} {K : PySem.W.Frag}
/-- a tracked object that M does not know stands -/
theorem Step.hid {H H' : Hp} {M M' : Mem} (s : Step H M H' M') {a : Addr} {o : HO} (h : H a = some o) (m : M a = none) : H' a = some o ∧ M' a = none := s a o h m
theorem RelM.hidW {H : Hp} {M : Mem} (R : RelM P w K H M) {a : Addr} {o u : HO} (h : H a = some o) (m : M a = none) (mu : Mut (some o)) : RelM P w K (upd H a u) M ∧ Keep H (upd H a u) := by
  have k : Keep H (upd H a u) := by
    refine ⟨fun b xs e => ?_, fun b ob x e => ?_⟩
    · rw [upd_ne]; exact e
      intro z; subst z; rw [h] at e; cases e; exact mu
    · rw [upd_ne]; exact e
      intro z; subst z; rw [h] at e; cases e; exact mu
  exact ⟨fun b o' e => RelO.step R k (R b o' e) (fun c hc => upd_ne fun z => hc (by rw [z]; exact m)) e fun _ _ h => h, k⟩
theorem lc_imp {wi : WI} {g : WG} {tt : WT} {te : WE} {vs : List Nat} (hsl : ∀ i ∈ g.sl, i ∈ vs) (σ : L2.St) (H : Hp) (Q : VK) (h : lE P w K (wLc wi g tt te vs) σ H Q) : tLc (lI P w K wi) (lG P w K g) (lT P w K tt) (lE P w K te) vs σ H Q := by
  obtain ⟨ρ, M, Q', rs, rm, q, po⟩ := h
  refine ⟨ρ, M, _, rs, rm, q, fun J items stay H1 M1 s1 m1 q1 ok Dd hD => ?_⟩
  -- the new list is tracked, M does not know it
  refine ⟨fun i m H2 => i + m = items.length ∧ ∃ M2 acc vacc, H2 Dd = some (.lst vacc) ∧ M2 Dd = none ∧ RelDs K H2 acc vacc ∧ Step H1 M1 H2 M2 ∧ RelM P w K H2 M2 ∧ lcF g tt te stay (wipeD ρ vs) Q' (items.drop i) acc M2,
    ⟨items.length, by omega, M1, [], [], upd_same, m1.free hD, .nil, Step.beside hD, m1.beside hD, by rw [List.drop_zero]; exact q1⟩, ?_⟩
  rintro i m H2 ⟨hm, M2, acc, vacc, hDd, hMd, racc, s2, m2, q2⟩
  by_cases hi : i < items.length
  · right
    rw [List.drop_eq_getElem_cons hi] at q2
    obtain ⟨sy, q2⟩ := q2
    obtain ⟨_, k2⟩ := ok i H2 M2 (s2.keep m1) m2 sy
    obtain ⟨go, yl⟩ := k2 _ (List.getElem?_eq_getElem hi)
    refine ⟨go, fun H' => ∃ M' acc vacc, H' Dd = some (.lst vacc) ∧ M' Dd = none ∧ RelDs K H' acc vacc ∧ Step H1 M1 H' M' ∧ RelM P w K H' M' ∧ lcF g tt te stay (wipeD ρ vs) Q' (items.drop (i + 1)) acc M', fun H' h => ⟨m - 1, by omega, by omega, h⟩, fun x H' hy => ?_⟩
    obtain ⟨s3, m3, r3⟩ := yl x H' hy
    have rsw := (rs.keep ((s1.trans (s2.trans s3)).keep rm)).wipe vs
    refine ⟨_, wipeD ρ vs, M2, _, r3, rsw, m3, q2, fun σ4 ρ4 H4 M4 s4 m4 r4 ss4 q4 => ⟨wipe_same ss4 hsl, ρ4, M4, _, r4, m4, q4, fun b H5 M5 s5 m5 q5 => ?_⟩⟩
    have s25 := s3.trans (s4.trans s5)
    obtain ⟨hD5, hM5⟩ := s25 Dd _ hDd hMd
    cases b with
    | false => exact iteF ⟨M5, acc, vacc, hD5, hM5, racc.keep (s25.keep m2), s2.trans s25, m5, q5.2 rfl⟩
    | true =>
      refine iteT ⟨ρ4, M5, _, r4.keep (s5.keep m4), m5, q5.1 rfl, fun v d H6 M6 s6 m6 r6 q6 => ?_⟩
      have s26 := s25.trans s6
      obtain ⟨hD6, hM6⟩ := s26 Dd _ hDd hMd
      have racc6 := racc.keep (s26.keep m2)
      refine ⟨vacc, hD6, by rw [← racc.length]; exact q6.1, M6, acc ++ [d], vacc ++ [v], upd_same, hM6, ?_, ?_, ?_, q6.2⟩
      · exact (racc6.append (.cons r6 .nil)).keep (m6.hidW hD6 hM6 trivial).2
      · intro a o ha hma
        obtain ⟨h1, h2⟩ := (s2.trans s26) a o ha hma
        have ne : a ≠ Dd := fun z => by subst z; rw [hD] at ha; cases ha
        exact ⟨by rw [upd_ne ne]; exact h1, h2⟩
      · exact (m6.hidW hD6 hM6 trivial).1
  · left
    rw [List.drop_of_length_le (by omega)] at q2
    obtain ⟨sy, q2⟩ := q2
    refine ⟨(ok i H2 M2 (s2.keep m1) m2 sy).1 (by omega), po (.ref Dd) (.ref Dd) H2 (mupd M2 Dd (.lst acc)) ?_ ?_ (.ref Dd) (q2 Dd hMd)⟩
    · intro a o ha hma
      obtain ⟨h1, h2⟩ := s1 a o ha hma
      obtain ⟨h3, h4⟩ := s2 a o h1 h2
      have ne : a ≠ Dd := fun z => by subst z; rw [hD] at h1; cases h1
      exact ⟨h3, by rw [mupd_ne ne]; exact h4⟩
    · intro a o ha
      by_cases e : a = Dd
      · subst e; rw [mupd_same] at ha; cases ha; exact ⟨vacc, hDd, racc⟩
      · rw [mupd_ne e] at ha
        exact RelO.step m2 ⟨fun _ _ h => h, fun _ _ _ h => h⟩ (m2 a o ha) (fun _ _ => rfl) ha fun b _ hb => by
          rw [mupd_ne (fun z => by rw [z, hMd] at hb; cases hb)]; exact hb
theorem lc2_imp {wi wi1 : WI} {g g1 : WG} {tt tt1 : WT} {te : WE} {vs vs1 : List Nat} (hsl : ∀ i ∈ g.sl, i ∈ vs) (hsl1 : ∀ i ∈ g1.sl, i ∈ vs1) (σ : L2.St) (H : Hp) (Q : VK) (h : lE P w K (wLc2 wi g tt wi1 g1 tt1 te vs vs1) σ H Q) :
    tLc2 (lI P w K wi) (lG P w K g) (lT P w K tt) (lI P w K wi1) (lG P w K g1) (lT P w K tt1) (lE P w K te) vs vs1 σ H Q := by
  obtain ⟨ρ, M, Q', rs, rm, q, po⟩ := h
  refine ⟨ρ, M, _, rs, rm, q, fun J items stay H1 M1 s1 m1 q1 ok Dd hD => ?_⟩
  refine ⟨fun i m H2 => i + m = items.length ∧ ∃ M2 acc vacc, H2 Dd = some (.lst vacc) ∧ M2 Dd = none ∧ RelDs K H2 acc vacc ∧ Step H1 M1 H2 M2 ∧ RelM P w K H2 M2 ∧ lc2F g tt wi1 g1 tt1 te vs1 stay (wipeD ρ vs) Q' (items.drop i) acc M2,
    ⟨items.length, by omega, M1, [], [], upd_same, m1.free hD, .nil, Step.beside hD, m1.beside hD, by rw [List.drop_zero]; exact q1⟩, ?_⟩
  rintro i m H2 ⟨hm, M2, acc, vacc, hDd, hMd, racc, s2, m2, q2⟩
  by_cases hi : i < items.length
  · right
    rw [List.drop_eq_getElem_cons hi] at q2
    obtain ⟨sy, q2⟩ := q2
    obtain ⟨_, k2⟩ := ok i H2 M2 (s2.keep m1) m2 sy
    obtain ⟨go, yl⟩ := k2 _ (List.getElem?_eq_getElem hi)
    refine ⟨go, fun H' => ∃ M' acc vacc, H' Dd = some (.lst vacc) ∧ M' Dd = none ∧ RelDs K H' acc vacc ∧ Step H1 M1 H' M' ∧ RelM P w K H' M' ∧ lc2F g tt wi1 g1 tt1 te vs1 stay (wipeD ρ vs) Q' (items.drop (i + 1)) acc M', fun H' h => ⟨m - 1, by omega, by omega, h⟩, fun x H' hy => ?_⟩
    obtain ⟨s3, m3, r3⟩ := yl x H' hy
    have rsw := (rs.keep ((s1.trans (s2.trans s3)).keep rm)).wipe vs
    refine ⟨_, wipeD ρ vs, M2, _, r3, rsw, m3, q2, fun σ4 ρ4 H4 M4 s4 m4 r4 ss4 q4 => ⟨wipe_same ss4 hsl, ρ4, M4, _, r4, m4, q4, fun b H5 M5 s5 m5 q5 => ?_⟩⟩
    have s25 := s3.trans (s4.trans s5)
    obtain ⟨hD5, hM5⟩ := s25 Dd _ hDd hMd
    cases b with
    | false => exact iteF ⟨M5, acc, vacc, hD5, hM5, racc.keep (s25.keep m2), s2.trans s25, m5, q5.2 rfl⟩
    | true =>
      refine iteT ⟨ρ4, M5, _, r4.keep (s5.keep m4), m5, q5.1 rfl, fun J1 items1 stay1 H6 M6 s6 m6 q6 ok1 => ?_⟩
      have s26 := s25.trans s6
      obtain ⟨hD6, hM6⟩ := s26 Dd _ hDd hMd
      refine ⟨fun j k H7 => j + k = items1.length ∧ ∃ M7 acc vacc, H7 Dd = some (.lst vacc) ∧ M7 Dd = none ∧ RelDs K H7 acc vacc ∧ Step H1 M1 H7 M7 ∧ Keep H6 H7 ∧ RelM P w K H7 M7 ∧ lc2G g1 tt1 te stay1 (wipeD ρ4 vs1) (fun acc M => lc2F g tt wi1 g1 tt1 te vs1 stay (wipeD ρ vs) Q' (items.drop (i + 1)) acc M) (items1.drop j) acc M7,
        ⟨items1.length, by omega, M6, acc, vacc, hD6, hM6, racc.keep (s26.keep m2), s2.trans s26, ⟨fun _ _ h => h, fun _ _ _ h => h⟩, m6, by rw [List.drop_zero]; exact q6⟩, ?_⟩
      rintro j k H7 ⟨hk, M7, acc7, vacc7, hD7, hM7, racc7, s7, k7, m7, q7⟩
      by_cases hj : j < items1.length
      · right
        rw [List.drop_eq_getElem_cons hj] at q7
        obtain ⟨sy7, q7⟩ := q7
        obtain ⟨_, ky⟩ := ok1 j H7 M7 k7 m7 sy7
        obtain ⟨go1, yl1⟩ := ky _ (List.getElem?_eq_getElem hj)
        refine ⟨go1, fun H' => ∃ M7 acc vacc, H' Dd = some (.lst vacc) ∧ M7 Dd = none ∧ RelDs K H' acc vacc ∧ Step H1 M1 H' M7 ∧ Keep H6 H' ∧ RelM P w K H' M7 ∧ lc2G g1 tt1 te stay1 (wipeD ρ4 vs1) (fun acc M => lc2F g tt wi1 g1 tt1 te vs1 stay (wipeD ρ vs) Q' (items.drop (i + 1)) acc M) (items1.drop (j + 1)) acc M7, fun H' h => ⟨k - 1, by omega, by omega, h⟩, fun y H8 hy => ?_⟩
        obtain ⟨s8, m8, r8⟩ := yl1 y H8 hy
        have k68 : Keep H6 H8 := ⟨fun a xs h => (s8.keep m7).1 a xs (k7.1 a xs h), fun a o u h => (s8.keep m7).2 a o u (k7.2 a o u h)⟩
        have rsw1 := ((r4.keep (s5.keep m4)).keep (s6.keep m5) |>.keep k68).wipe vs1
        refine ⟨_, wipeD ρ4 vs1, M7, _, r8, rsw1, m8, q7, fun σ9 ρ9 H9 M9 s9 m9 r9 ss9 q9 => ⟨wipe_same ss9 hsl1, ρ9, M9, _, r9, m9, q9, fun b HA MA sA mA qA => ?_⟩⟩
        have s7A := s8.trans (s9.trans sA)
        obtain ⟨hDA, hMA⟩ := s7A Dd _ hD7 hM7
        have k6A : Keep H6 HA := ⟨fun a xs h => (s7A.keep m7).1 a xs (k7.1 a xs h), fun a o u h => (s7A.keep m7).2 a o u (k7.2 a o u h)⟩
        cases b with
        | false => exact iteF ⟨MA, acc7, vacc7, hDA, hMA, racc7.keep (s7A.keep m7), s7.trans s7A, k6A, mA, qA.2 rfl⟩
        | true =>
          refine iteT ⟨ρ9, MA, _, r9.keep (sA.keep m9), mA, qA.1 rfl, fun v d HB MB sB mB rB qB => ?_⟩
          have s7B := s7A.trans sB
          obtain ⟨hDB, hMB⟩ := s7B Dd _ hD7 hM7
          have raccB := racc7.keep (s7B.keep m7)
          have kW := (mB.hidW (u := .lst (vacc7 ++ [v])) hDB hMB trivial)
          refine ⟨vacc7, hDB, by rw [← racc7.length]; exact qB.1, MB, acc7 ++ [d], vacc7 ++ [v], upd_same, hMB, (raccB.append (.cons rB .nil)).keep kW.2, ?_, ?_, kW.1, qB.2⟩
          · intro a o ha hma
            obtain ⟨h1, h2⟩ := (s7.trans s7B) a o ha hma
            have ne : a ≠ Dd := fun z => by subst z; rw [hD] at ha; cases ha
            exact ⟨by rw [upd_ne ne]; exact h1, h2⟩
          · have kB := s7B.keep m7
            exact ⟨fun a xs h => kW.2.1 a xs (kB.1 a xs (k7.1 a xs h)), fun a o u h => kW.2.2 a o u (kB.2 a o u (k7.2 a o u h))⟩
      · left
        rw [List.drop_of_length_le (show items1.length ≤ j by omega)] at q7
        obtain ⟨sy7, q7⟩ := q7
        exact ⟨(ok1 j H7 M7 k7 m7 sy7).1 (by omega), M7, acc7, vacc7, hD7, hM7, racc7, s7, m7, q7⟩
  · left
    rw [List.drop_of_length_le (by omega)] at q2
    obtain ⟨sy, q2⟩ := q2
    refine ⟨(ok i H2 M2 (s2.keep m1) m2 sy).1 (by omega), po (.ref Dd) (.ref Dd) H2 (mupd M2 Dd (.lst acc)) ?_ ?_ (.ref Dd) (q2 Dd hMd)⟩
    · intro a o ha hma
      obtain ⟨h1, h2⟩ := s1 a o ha hma
      obtain ⟨h3, h4⟩ := s2 a o h1 h2
      have ne : a ≠ Dd := fun z => by subst z; rw [hD] at h1; cases h1
      exact ⟨h3, by rw [mupd_ne ne]; exact h4⟩
    · intro a o ha
      by_cases e : a = Dd
      · subst e; rw [mupd_same] at ha; cases ha; exact ⟨vacc, hDd, racc⟩
      · rw [mupd_ne e] at ha
        exact RelO.step m2 ⟨fun _ _ h => h, fun _ _ _ h => h⟩ (m2 a o ha) (fun _ _ => rfl) ha fun b _ hb => by
          rw [mupd_ne (fun z => by rw [z, hMd] at hb; cases hb)]; exact hb
end
/-! ### their rules -/
structure DTs (X : Cx) (ifs : List Expr) (t : WT) : Prop where
  pts : PTs X ifs (lT X.prog X.w X.K t)
theorem PTs.imp {X : Cx} {e : List Expr} {t u : TT} (h : PTs X e t) (i : ∀ σ H Q, u σ H Q → t σ H Q) : PTs X e u := ⟨fun pins s σ H Q I q => h.run pins s σ H Q I (i _ _ _ q)⟩
section
variable {X : Cx}
theorem dts_nil : DTs X [] wtYes := ⟨PTs.imp pts_nil fun σ H Q ⟨ρ, M, Q', rs, rm, q, po⟩ => po true H M Step.refl rm q⟩
theorem dts_one {c : Expr} {t : WT} (h : DT X c t) : DTs X [c] t := ⟨pts_one h.pt⟩
theorem de_lc {elt tg iter : Expr} {ifs : List Expr} {scope : Scope} {own : List (Str × Nat)} {pos : Pos} {wi : WI} {g : WG} {tt : WT} {te : WE} (hc : X.calm = true) (hN : X.N.Nodup) (hi : DI X tg iter wi) (ok : BlkOk X.N X.env.scope scope own)
    (hg : ∀ (s : Shared) (H : Hp) (C : Addr) (cl : List (Str × Addr)) (fp : List Addr), DG (X.blk s H scope (compEnvC scope cl C X.env) fp) tg g) (ht : ∀ (s : Shared) (H : Hp) (C : Addr) (cl : List (Str × Addr)) (fp : List Addr), DTs (X.blk s H scope (compEnvC scope cl C X.env) fp) ifs tt)
    (he : ∀ (s : Shared) (H : Hp) (C : Addr) (cl : List (Str × Addr)) (fp : List Addr), DE (X.blk s H scope (compEnvC scope cl C X.env) fp) elt te) (hsl : ∀ i ∈ g.sl, i ∈ own.map (·.2) := by decide) (hs : ∀ x, foldedSetIterable iter X.env x = pure x := by intro _; rfl) :
    DE X (.ListComp elt [⟨tg, iter, ifs, 0⟩] scope pos) (wLc wi g tt te (own.map (·.2))) :=
  ⟨PE.imp (pe_lc hc hN hi.pi ok (fun s H C cl fp => (hg s H C cl fp).pg) (fun s H C cl fp => (ht s H C cl fp).pts) (fun s H C cl fp => (he s H C cl fp).pe) hs) (lc_imp hsl)⟩
theorem de_lc2 {elt tg iter tg1 iter1 : Expr} {ifs ifs1 : List Expr} {scope : Scope} {own : List (Str × Nat)} {vs1 : List Nat} {pos : Pos} {wi wi1 : WI} {g g1 : WG} {tt tt1 : WT} {te : WE} (hc : X.calm = true) (hN : X.N.Nodup) (hi : DI X tg iter wi) (ok : BlkOk X.N X.env.scope scope own) (hv : ∀ i ∈ vs1, i ∈ own.map (·.2))
    (hg : ∀ (s : Shared) (H : Hp) (C : Addr) (cl : List (Str × Addr)) (fp : List Addr), DG (X.blk s H scope (compEnvC scope cl C X.env) fp) tg g) (ht : ∀ (s : Shared) (H : Hp) (C : Addr) (cl : List (Str × Addr)) (fp : List Addr), DTs (X.blk s H scope (compEnvC scope cl C X.env) fp) ifs tt)
    (hi1 : ∀ (s : Shared) (H : Hp) (C : Addr) (cl : List (Str × Addr)) (fp : List Addr), DI (X.blk s H scope (compEnvC scope cl C X.env) fp) tg1 iter1 wi1)
    (hg1 : ∀ (s : Shared) (H : Hp) (C : Addr) (cl : List (Str × Addr)) (fp : List Addr), DG (X.blk s H scope (compEnvC scope cl C X.env) fp) tg1 g1) (ht1 : ∀ (s : Shared) (H : Hp) (C : Addr) (cl : List (Str × Addr)) (fp : List Addr), DTs (X.blk s H scope (compEnvC scope cl C X.env) fp) ifs1 tt1)
    (he : ∀ (s : Shared) (H : Hp) (C : Addr) (cl : List (Str × Addr)) (fp : List Addr), DE (X.blk s H scope (compEnvC scope cl C X.env) fp) elt te) (hsl : ∀ i ∈ g.sl, i ∈ own.map (·.2) := by decide) (hsl1 : ∀ i ∈ g1.sl, i ∈ vs1 := by decide) (hs : ∀ x, foldedSetIterable iter X.env x = pure x := by intro _; rfl) (hs1 : ∀ env x, foldedSetIterable iter1 env x = pure x := by intro _ _; rfl) :
    DE X (.ListComp elt [⟨tg, iter, ifs, 0⟩, ⟨tg1, iter1, ifs1, 0⟩] scope pos) (wLc2 wi g tt wi1 g1 tt1 te (own.map (·.2)) vs1) :=
  ⟨PE.imp (pe_lc2 hc hN hi.pi ok hv (fun s H C cl fp => (hg s H C cl fp).pg) (fun s H C cl fp => (ht s H C cl fp).pts) (fun s H C cl fp => (hi1 s H C cl fp).pi) (fun s H C cl fp => (hg1 s H C cl fp).pg) (fun s H C cl fp => (ht1 s H C cl fp).pts) (fun s H C cl fp => (he s H C cl fp).pe) hs hs1) (lc2_imp hsl hsl1)⟩
/-- name = [..] on one line -/
theorem ds_setLc {i : Nat} {y : Str} {py : Pos} {elt tg iter : Expr} {ifs : List Expr} {scope : Scope} {own : List (Str × Nat)} {pos spos : Pos} {wi : WI} {g : WG} {tt : WT} {te : WE} (hc : X.calm = true) (hN : X.N.Nodup) (hy : X.N[i]? = some y) (hyl : X.env.scope.names.lookup y = some .local)
    (hsw : swapsWith (.ListComp elt [⟨tg, iter, ifs, 0⟩] scope pos) (some (.Name y py)) spos.line X.env = pure true) (hi : DI X tg iter wi) (ok : BlkOk X.N X.env.scope scope own)
    (hg : ∀ (s : Shared) (H : Hp) (C : Addr) (cl : List (Str × Addr)) (fp : List Addr), DG (X.blk s H scope (compEnvC scope cl C X.env) fp) tg g) (ht : ∀ (s : Shared) (H : Hp) (C : Addr) (cl : List (Str × Addr)) (fp : List Addr), DTs (X.blk s H scope (compEnvC scope cl C X.env) fp) ifs tt)
    (he : ∀ (s : Shared) (H : Hp) (C : Addr) (cl : List (Str × Addr)) (fp : List Addr), DE (X.blk s H scope (compEnvC scope cl C X.env) fp) elt te) (hsl : ∀ i ∈ g.sl, i ∈ own.map (·.2) := by decide) (hs : ∀ x, foldedSetIterable iter X.env x = pure x := by intro _; rfl) :
    DS X (.Assign [.Name y py] (.ListComp elt [⟨tg, iter, ifs, 0⟩] scope pos) spos) (sAsg (wLc wi g tt te (own.map (·.2))) (gN i)) :=
  ⟨PS.imp (ps_setLc hc hN hy hyl hsw hi.pi ok (fun s H C cl fp => (hg s H C cl fp).pg) (fun s H C cl fp => (ht s H C cl fp).pts) (fun s H C cl fp => (he s H C cl fp).pe) hs) fun D σ H ⟨ρ, M, A, rs, rm, q, po⟩ =>
    lc_imp hsl σ H _ ⟨ρ, M, _, rs, rm, q, fun v d H1 M1 s1 m1 r1 q1 => po.nx _ _ H1 M1 s1 m1 ((rs.keep (s1.keep rm)).set i r1) q1⟩⟩
theorem ds_setLc2 {i : Nat} {y : Str} {py : Pos} {elt tg iter tg1 iter1 : Expr} {ifs ifs1 : List Expr} {scope : Scope} {own : List (Str × Nat)} {vs1 : List Nat} {pos spos : Pos} {wi wi1 : WI} {g g1 : WG} {tt tt1 : WT} {te : WE} (hc : X.calm = true) (hN : X.N.Nodup) (hy : X.N[i]? = some y) (hyl : X.env.scope.names.lookup y = some .local)
    (hsw : swapsWith (.ListComp elt [⟨tg, iter, ifs, 0⟩, ⟨tg1, iter1, ifs1, 0⟩] scope pos) (some (.Name y py)) spos.line X.env = pure true) (hi : DI X tg iter wi) (ok : BlkOk X.N X.env.scope scope own) (hv : ∀ i ∈ vs1, i ∈ own.map (·.2))
    (hg : ∀ (s : Shared) (H : Hp) (C : Addr) (cl : List (Str × Addr)) (fp : List Addr), DG (X.blk s H scope (compEnvC scope cl C X.env) fp) tg g) (ht : ∀ (s : Shared) (H : Hp) (C : Addr) (cl : List (Str × Addr)) (fp : List Addr), DTs (X.blk s H scope (compEnvC scope cl C X.env) fp) ifs tt)
    (hi1 : ∀ (s : Shared) (H : Hp) (C : Addr) (cl : List (Str × Addr)) (fp : List Addr), DI (X.blk s H scope (compEnvC scope cl C X.env) fp) tg1 iter1 wi1)
    (hg1 : ∀ (s : Shared) (H : Hp) (C : Addr) (cl : List (Str × Addr)) (fp : List Addr), DG (X.blk s H scope (compEnvC scope cl C X.env) fp) tg1 g1) (ht1 : ∀ (s : Shared) (H : Hp) (C : Addr) (cl : List (Str × Addr)) (fp : List Addr), DTs (X.blk s H scope (compEnvC scope cl C X.env) fp) ifs1 tt1)
    (he : ∀ (s : Shared) (H : Hp) (C : Addr) (cl : List (Str × Addr)) (fp : List Addr), DE (X.blk s H scope (compEnvC scope cl C X.env) fp) elt te) (hsl : ∀ i ∈ g.sl, i ∈ own.map (·.2) := by decide) (hsl1 : ∀ i ∈ g1.sl, i ∈ vs1 := by decide) (hs : ∀ x, foldedSetIterable iter X.env x = pure x := by intro _; rfl) (hs1 : ∀ env x, foldedSetIterable iter1 env x = pure x := by intro _ _; rfl) :
    DS X (.Assign [.Name y py] (.ListComp elt [⟨tg, iter, ifs, 0⟩, ⟨tg1, iter1, ifs1, 0⟩] scope pos) spos) (sAsg (wLc2 wi g tt wi1 g1 tt1 te (own.map (·.2)) vs1) (gN i)) :=
  ⟨PS.imp (ps_setLc2 hc hN hy hyl hsw hi.pi ok hv (fun s H C cl fp => (hg s H C cl fp).pg) (fun s H C cl fp => (ht s H C cl fp).pts) (fun s H C cl fp => (hi1 s H C cl fp).pi) (fun s H C cl fp => (hg1 s H C cl fp).pg) (fun s H C cl fp => (ht1 s H C cl fp).pts) (fun s H C cl fp => (he s H C cl fp).pe) hs hs1) fun D σ H ⟨ρ, M, A, rs, rm, q, po⟩ =>
    lc2_imp hsl hsl1 σ H _ ⟨ρ, M, _, rs, rm, q, fun v d H1 M1 s1 m1 r1 q1 => po.nx _ _ H1 M1 s1 m1 ((rs.keep (s1.keep rm)).set i r1) q1⟩⟩
end
end MP

namespace MP
open PySem PySem.Spec PyProof.Rows L2

/-! ### dicts by their entries -/
/-- what stands at the key d -/
def dgetD (kvs : List (D × D)) (d : D) : Option D := (kvs.find? fun p => decide (p.1.key = d.key)).map (·.2)
/-- a key that these entries can be asked for -/
def keyOk (kvs : List (D × D)) (d : D) : Prop := (d.pkey.isSome = true ∧ ∀ p ∈ kvs, p.1.pkey.isSome = true) ∨ (d.isTup = true ∧ (∀ p ∈ kvs, p.1.isTup = true) ∧ ∃ k, d.key = some k ∧ k.depth ≤ 8)
/-- the entries behind d[key] = x -/
def dputD (kvs : List (D × D)) (d x : D) : List (D × D) := if kvs.any (fun p => decide (p.1.key = d.key)) then kvs.map (fun p => if p.1.key = d.key then (p.1, x) else p) else kvs ++ [(d, x)]
theorem pkey_eq {a b : D} {k j : Key} (ha : a.pkey = some k) (hb : b.pkey = some j) : decide (a.key = b.key) = decide (k = j) := by
  cases a <;> simp [D.pkey] at ha <;> cases b <;> simp [D.pkey] at hb <;> subst ha <;> subst hb <;> simp [D.key]
theorem pkey_rel {K : PySem.W.Frag} {H : Hp} {d : D} {k : Key} {v : V} (h : d.pkey = some k) (r : RelD K H d v) : v = kV k := by
  cases r <;> simp [D.pkey] at h <;> subst h <;> rfl
theorem pkey_notTup {d : D} {k : Key} (h : d.pkey = some k) : d.isTup = false := by cases d <;> simp [D.pkey] at h <;> rfl
section
variable {K : PySem.W.Frag} {H : Hp}
theorem valV_rel : ∀ {kvs : List (D × D)} {L : List (Key × V)} {d : D} {k : Key}, d.pkey = some k → kvs.map (fun p => p.1.pkey) = L.map (fun p => some p.1) → RelDs K H (kvs.map (·.2)) (L.map (·.2)) →
    (dgetD kvs d = none → valV L k = none) ∧ ∀ x, dgetD kvs d = some x → ∃ v, valV L k = some v ∧ RelD K H x v
  | [], [], d, k, _, _, _ => ⟨fun _ => rfl, fun x h => by simp [dgetD] at h⟩
  | [], _ :: _, _, _, _, h, _ => by simp at h
  | _ :: _, [], _, _, _, h, _ => by simp at h
  | p :: kvs, q :: L, d, k, hd, h, r => by
    rw [List.map_cons, List.map_cons] at h
    injection h with h1 h2
    cases r with
    | cons r1 r2 =>
      have e := pkey_eq h1 hd
      by_cases he : q.1 = k
      · rw [decide_eq_true he] at e
        refine ⟨fun z => ?_, fun x z => ?_⟩
        · rw [dgetD, List.find?_cons, e] at z; cases z
        · rw [dgetD, List.find?_cons, e] at z
          cases z
          exact ⟨q.2, valV_pos he, r1⟩
      · rw [decide_eq_false he] at e
        have ih := valV_rel hd h2 r2
        refine ⟨fun z => ?_, fun x z => ?_⟩
        · rw [dgetD, List.find?_cons, e] at z
          rw [valV_neg he]; exact ih.1 z
        · rw [dgetD, List.find?_cons, e] at z
          rw [valV_neg he]; exact ih.2 x z
end

mutual
theorem nestedOf {h : Heap} : ∀ (d : D) (k : NestedKey) (v : Value) (as : List Addr), d.key = some k → Reads h v d.py as → NestedIs h k v
  | .non, k, v, as, e, r => by
    simp only [D.key] at e; cases e; simp only [D.py] at r; cases r; exact .none
  | .bl b, k, v, as, e, r => by
    simp only [D.key] at e; cases e; simp only [D.py] at r; cases r; exact .bool rfl
  | .int i, k, v, as, e, r => by
    simp only [D.key] at e; cases e; simp only [D.py] at r; cases r; exact .int _ _
  | .str x, k, v, as, e, r => by
    simp only [D.key] at e; cases e; simp only [D.py] at r; cases r; exact .text _ _
  | .tup xs, k, v, as, e, r => by
    simp only [D.key] at e
    obtain ⟨ks, e1, e2⟩ := Option.map_eq_some_iff.mp e
    subst e2
    simp only [D.py] at r
    cases r with
    | tuple h1 h2 h3 h4 => exact .tup h1 h2 h3 (nestedAll xs ks _ _ e1 h4)
  | .ref _, _, _, _, e, _ => by simp [D.key] at e
  | .ty _, _, _, _, e, _ => by simp [D.key] at e
  | .fl _, _, _, _, e, _ => by simp [D.key] at e
theorem nestedAll {h : Heap} : ∀ (ds : List D) (ks : List NestedKey) (vs : List Value) (as : List Addr), D.keys ds = some ks → ReadsAll h vs (D.pys ds) as → NestedAll h ks vs
  | [], ks, vs, as, e, r => by
    simp only [D.keys] at e; cases e; simp only [D.pys] at r; cases r; exact .nil
  | d :: ds, ks, vs, as, e, r => by
    simp only [D.keys] at e
    split at e
    · rename_i k ks' e1 e2
      cases e
      simp only [D.pys] at r
      cases r with
      | cons r1 r2 => exact .cons (nestedOf d k _ _ e1 r1) (nestedAll ds ks' _ _ e2 r2)
    · cases e
end
mutual
theorem key_pl : ∀ (d : D) (k : NestedKey), d.key = some k → d.pl
  | .non, _, _ => rfl
  | .bl _, _, _ => rfl
  | .int _, _, _ => rfl
  | .str _, _, _ => rfl
  | .tup xs, k, e => by
    simp only [D.key] at e
    obtain ⟨ks, e1, e2⟩ := Option.map_eq_some_iff.mp e
    have := keys_pl xs ks e1
    simp only [D.pl, D.py, PyData.plain]; exact this
  | .ref _, _, e => by simp [D.key] at e
  | .ty _, _, e => by simp [D.key] at e
  | .fl _, _, e => by simp [D.key] at e
theorem keys_pl : ∀ (ds : List D) (ks : List NestedKey), D.keys ds = some ks → D.pls ds
  | [], _, _ => rfl
  | d :: ds, ks, e => by
    simp only [D.keys] at e
    split at e
    · rename_i k ks' e1 e2
      simp only [D.pls, D.pys, PyData.plainAll, Bool.and_eq_true]
      exact ⟨key_pl d k e1, keys_pl ds ks' e2⟩
    · cases e
end
theorem tup_rel {K : PySem.W.Frag} {H : Hp} {d : D} {v : V} (h : d.isTup = true) (r : RelD K H d v) : ∃ a, v = .ref a := by
  cases r <;> first | exact ⟨_, rfl⟩ | simp [D.isTup] at h
section
variable {X : Cx} {pins : List (Addr × Obj)} {σ : L2.St} {H : Hp} {s : Shared} {M : Mem}
theorem Inv.nested (I : Inv X pins σ H s) {d : D} {k : NestedKey} {v : V} {u : Value} (e : d.key = some k) (r : RelD X.K H d v) (rv : RelV v u) : NestedIs s.heap k u := by
  obtain ⟨as, q⟩ := Inv.rd I r (key_pl d k e) rv
  exact nestedOf d k u as e q
/-- the entries of a dict with tuple keys, as they lie -/
def EntN (K : PySem.W.Frag) (H : Hp) (kvs : List (D × D)) (L : List (NestedKey × Addr × Value)) : Prop :=
  ∃ vs : List V, kvs.map (fun p => p.1.key) = L.map (fun p => some p.1) ∧ RelDs K H (kvs.map (·.1)) (L.map fun p => V.ref p.2.1) ∧ RelDs K H (kvs.map (·.2)) vs ∧ Vals vs (L.map (·.2.2))
theorem EntN.at {K : PySem.W.Frag} {H : Hp} : ∀ {kvs : List (D × D)} {L : List (NestedKey × Addr × Value)} {d : D} {k : NestedKey}, EntN K H kvs L → d.key = some k →
    (dgetD kvs d = none → atKey L k = none) ∧ ∀ x, dgetD kvs d = some x → ∃ b u v, atKey L k = some (b, u) ∧ RelD K H x v ∧ RelV v u
  | [], [], _, _, _, _ => ⟨fun _ => rfl, fun x h => by simp [dgetD] at h⟩
  | [], _ :: _, _, _, ⟨_, h, _⟩, _ => by simp at h
  | _ :: _, [], _, _, ⟨_, h, _⟩, _ => by simp at h
  | p :: kvs, q :: L, d, k, ⟨vs, h, r1, r2, r3⟩, hd => by
    rw [List.map_cons, List.map_cons] at h
    injection h with h1 h2
    cases r1 with
    | cons a1 a2 =>
      cases r2 with
      | cons b1 b2 =>
        cases r3 with
        | cons c1 c2 =>
          have ih := EntN.at (kvs := kvs) (L := L) (d := d) (k := k) ⟨_, h2, a2, b2, c2⟩ hd
          by_cases he : q.1 = k
          · have e : decide (p.1.key = d.key) = true := decide_eq_true (by rw [h1, hd, he])
            refine ⟨fun z => ?_, fun x z => ?_⟩
            · rw [dgetD, List.find?_cons, e] at z; cases z
            · rw [dgetD, List.find?_cons, e] at z
              cases z
              exact ⟨q.2.1, q.2.2, _, by rw [atKey, List.find?_cons, decide_eq_true he]; rfl, b1, c1⟩
          · have e : decide (p.1.key = d.key) = false := decide_eq_false (by rw [h1, hd]; intro z; exact he (Option.some.inj z))
            have f : atKey (q :: L) k = atKey L k := by rw [atKey, List.find?_cons, decide_eq_false he]; rfl
            refine ⟨fun z => ?_, fun x z => ?_⟩
            · rw [dgetD, List.find?_cons, e] at z
              rw [f]; exact ih.1 z
            · rw [dgetD, List.find?_cons, e] at z
              rw [f]; exact ih.2 x z
/-- a dict that is asked with a tuple -/
theorem dic_n (I : Inv X pins σ H s) (rm : RelM X.prog X.w X.K H M) {a : Addr} {kvs : List (D × D)} (h : M a = some (.dic kvs)) (ht : ∀ p ∈ kvs, p.1.isTup = true) :
    ∃ L, s.heap.DictOfH (nestedKind X.prog X.w) a L ∧ EntN X.K H kvs L ∧ L.length ≤ sizeLine ∧ (a == sysModules) = false := by
  rcases rm a _ h with ⟨L, e, q1, q2⟩ | ⟨L, vs, e, q1, q2, q3, q4, q5⟩
  · have hk : kvs = [] := by
      cases kvs with
      | nil => rfl
      | cons p r =>
        cases L with
        | nil => simp at q1
        | cons q L' =>
          rw [List.map_cons, List.map_cons] at q1
          injection q1 with z _
          have := ht p (List.mem_cons_self)
          rw [pkey_notTup z] at this; cases this
    subst hk
    have hL : L = [] := by cases L with | nil => rfl | cons q L' => simp at q1
    subst hL
    obtain ⟨z, hd, vs, rel, o, es, ep, h1, h2, h3, h4, h5, h6⟩ := dk_of I.hok e
    cases rel
    have h7 : es.toList = [] := List.eq_nil_of_length_eq_zero (by have := h5.length; simpa using this)
    exact ⟨[], ⟨o, es, ep, h1, h2, h3, by rw [h7]; rfl, fun x hx => by simp at hx, List.nodup_nil⟩, ⟨[], rfl, .nil, .nil, .nil⟩, Nat.zero_le _, hd⟩
  · obtain ⟨⟨z, hd, o, es, ep, h1, h2, h3, h4, h5⟩, _⟩ := (show ObjOk X.prog X.w H s.heap a (RawD X.prog X.w a L) from I.hok a _ e)
    refine ⟨L, ⟨o, es, ep, h1, h2, h3, h4, fun x hx => ?_, h5⟩, ⟨vs, q1, q2, q4, q5⟩, z, hd⟩
    obtain ⟨i, hi⟩ := List.mem_iff_getElem?.mp hx
    have hk1 : (kvs.map fun p => p.1.key)[i]? = some (some x.1) := by rw [q1, List.getElem?_map, hi]; rfl
    rw [List.getElem?_map] at hk1
    obtain ⟨p, hp1, hp2⟩ := Option.map_eq_some_iff.mp hk1
    have hv1 : (L.map fun p => V.ref p.2.1)[i]? = some (.ref x.2.1) := by rw [List.getElem?_map, hi]; rfl
    obtain ⟨d, hd1, hd2⟩ := q2.getV hv1
    rw [List.getElem?_map, hp1] at hd1
    cases hd1
    exact ⟨Inv.nested I hp2 hd2 rfl, q3.2.2 x hx⟩
/-- a dict that is asked with an int or a text -/
theorem dic_k (rm : RelM X.prog X.w X.K H M) {a : Addr} {kvs : List (D × D)} (h : M a = some (.dic kvs)) (ht : ∀ p ∈ kvs, p.1.pkey.isSome = true) :
    ∃ L, H a = some (.dK L) ∧ kvs.map (fun p => p.1.pkey) = L.map (fun p => some p.1) ∧ RelDs X.K H (kvs.map (·.2)) (L.map (·.2)) := by
  rcases rm a _ h with q | ⟨L, vs, e, q1, q2, ⟨q3, q6, _⟩, q4, q5⟩
  · exact q
  · cases kvs with
    | nil => exact absurd rfl q6
    | cons p r =>
      have h1 := ht p List.mem_cons_self
      have h2 := q3 p List.mem_cons_self
      obtain ⟨k, hk⟩ := Option.isSome_iff_exists.mp h1
      rw [pkey_notTup hk] at h2; cases h2
variable {A : Around} {E : Value → Shared → Prop}
theorem dic_typeIs (I : Inv X pins σ H s) (rm : RelM X.prog X.w X.K H M) {a : Addr} {kvs : List (D × D)} (h : M a = some (.dic kvs)) : s.TypeIs (.ref a) "dict" := by
  rcases rm a _ h with ⟨L, e, q1, q2⟩ | ⟨L, vs, e, q1, q2, q3, q4, q5⟩
  · obtain ⟨_, _, vs, _, dd⟩ := dk_of I.hok e
    exact dd.typeIs
  · obtain ⟨⟨z, hd, o, es, ep, h1, h2, h3, h4, h5⟩, _⟩ := (show ObjOk X.prog X.w H s.heap a (RawD X.prog X.w a L) from I.hok a _ e)
    exact ⟨o, h1, h2.1⟩
/-- d[key], there -/
theorem dic_getItem (hu : A.units + 64 < cLine) (I : Inv X pins σ H s) (rm : RelM X.prog X.w X.K H M) {a : Addr} {kvs : List (D × D)} (h : M a = some (.dic kvs)) {e x : D} {y : V} {u : Value} (ko : keyOk kvs e) (g : dgetD kvs e = some x) (re : RelD X.K H e y) (ry : RelV y u)
    {Q : Value → Shared → Prop} (q : ∀ v w' s', Inv X pins σ H s' → RelD X.K H x v → RelV v w' → Q w' s') : wpAny (model X.prog X.w) A (getItem (.ref a) u) Q E s := by
  rcases ko with ⟨k1, k2⟩ | ⟨k1, k2, k, k3, k4⟩
  · obtain ⟨L, e1, q1, q2⟩ := dic_k rm h k2
    obtain ⟨k, hk⟩ := Option.isSome_iff_exists.mp k1
    obtain ⟨v, hv, rv⟩ := (valV_rel hk q1 q2).2 x g
    have ey := pkey_rel hk re
    subst ey
    exact d_getItem (v := v) (by omega) I (by rw [← hv]; exact .k e1) ry fun w' s' I' r' => q v w' s' I' rv r'
  · obtain ⟨L, dd, en, _, _⟩ := dic_n I rm h k2
    obtain ⟨b, u', v, h1, h2, h3⟩ := (en.at k3).2 x g
    obtain ⟨b', rfl⟩ := tup_rel k1 re
    cases ry
    have hn := Inv.nested I k3 re rfl
    exact wpAny_getItem_heap (knd := nestedKind X.prog X.w) (k := k) (show A.in1.units + 8 < cLine by show A.units + 1 + 8 < cLine; omega) ⟨hn, k4⟩ dd h1 (q v u' _ (I.tok _) h2 h3)
/-- key in d, key not in d -/
theorem dic_in (hu : A.units + 64 < cLine) (I : Inv X pins σ H s) (rm : RelM X.prog X.w X.K H M) {a : Addr} {kvs : List (D × D)} (h : M a = some (.dic kvs)) {e : D} {y : V} {u : Value} (ko : keyOk kvs e) (re : RelD X.K H e y) (ry : RelV y u)
    {Q : Value → Shared → Prop} (q : ∀ s', Inv X pins σ H s' → Q (.bool (dgetD kvs e).isSome) s') : wpAny (model X.prog X.w) A (compareOp .In u (.ref a)) Q E s := by
  rcases ko with ⟨k1, k2⟩ | ⟨k1, k2, k, k3, k4⟩
  · obtain ⟨L, e1, q1, q2⟩ := dic_k rm h k2
    obtain ⟨k, hk⟩ := Option.isSome_iff_exists.mp k1
    have hv := valV_rel hk q1 q2
    have ey := pkey_rel hk re
    subst ey
    refine d_in (by omega) I (.k e1) ry fun s' I' => ?_
    have e2 : (valV L k).isSome = (dgetD kvs e).isSome := by
      cases g : dgetD kvs e with
      | none => rw [hv.1 g]; rfl
      | some x => obtain ⟨v, hv2, _⟩ := hv.2 x g; rw [hv2]; rfl
    rw [e2]; exact q s' I'
  · obtain ⟨L, dd, en, _, hd⟩ := dic_n I rm h k2
    have hv := en.at k3
    obtain ⟨b', rfl⟩ := tup_rel k1 re
    cases ry
    have hn := Inv.nested I k3 re rfl
    have e2 : (atKey L k).isSome = (dgetD kvs e).isSome := by
      cases g : dgetD kvs e with
      | none => rw [hv.1 g]; rfl
      | some x => obtain ⟨b, u', v, hv2, _⟩ := hv.2 x g; rw [hv2]; rfl
    refine wpAny_in_heap (knd := nestedKind X.prog X.w) (k := k) (show A.in1.units + 8 < cLine by show A.units + 1 + 8 < cLine; omega) ⟨hn, k4⟩ hd dd ?_
    rw [e2]; exact q _ (I.tok _)
theorem dic_notIn (hu : A.units + 64 < cLine) (I : Inv X pins σ H s) (rm : RelM X.prog X.w X.K H M) {a : Addr} {kvs : List (D × D)} (h : M a = some (.dic kvs)) {e : D} {y : V} {u : Value} (ko : keyOk kvs e) (re : RelD X.K H e y) (ry : RelV y u)
    {Q : Value → Shared → Prop} (q : ∀ s', Inv X pins σ H s' → Q (.bool (!(dgetD kvs e).isSome)) s') : wpAny (model X.prog X.w) A (compareOp .NotIn u (.ref a)) Q E s := by
  rcases ko with ⟨k1, k2⟩ | ⟨k1, k2, k, k3, k4⟩
  · obtain ⟨L, e1, q1, q2⟩ := dic_k rm h k2
    obtain ⟨k, hk⟩ := Option.isSome_iff_exists.mp k1
    have hv := valV_rel hk q1 q2
    have ey := pkey_rel hk re
    subst ey
    refine d_notIn (by omega) I (.k e1) ry fun s' I' => ?_
    have e2 : (valV L k).isSome = (dgetD kvs e).isSome := by
      cases g : dgetD kvs e with
      | none => rw [hv.1 g]; rfl
      | some x => obtain ⟨v, hv2, _⟩ := hv.2 x g; rw [hv2]; rfl
    rw [e2]; exact q s' I'
  · obtain ⟨L, dd, en, _, hd⟩ := dic_n I rm h k2
    have hv := en.at k3
    obtain ⟨b', rfl⟩ := tup_rel k1 re
    cases ry
    have hn := Inv.nested I k3 re rfl
    have e2 : (valueAt (pairsH L) k).isSome = (dgetD kvs e).isSome := by
      rw [valueAt_pairsH, Option.isSome_map]
      cases g : dgetD kvs e with
      | none => rw [hv.1 g]; rfl
      | some x => obtain ⟨b, u', v, hv2, _⟩ := hv.2 x g; rw [hv2]; rfl
    refine notIn_keyed (knd := nestedKind X.prog X.w) (k := k) (show A.in1.units + 8 < cLine by show A.units + 1 + 8 < cLine; omega) ⟨hn, k4⟩ hd ⟨L, dd, rfl⟩ ?_
    rw [e2]; exact q _ (I.tok _)
end
end MP

namespace MP
open PySem PySem.Spec PyProof.Rows L2

/-! ### an object's case -/
def onLst (M : Mem) (a : Addr) (f : List D → Prop) : Prop := ∃ xs, M a = some (.lst xs) ∧ f xs
def onDic (M : Mem) (a : Addr) (f : List (D × D) → Prop) : Prop := ∃ xs, M a = some (.dic xs) ∧ f xs

/-! ### subscripts -/
/-- what stands there: no object is changed -/
def ixF (d e : D) (M : Mem) (Q : D → Prop) : Prop := match d with
  | .tup xs => ∃ i x, e = .int i ∧ atI xs i = some x ∧ Q x
  | .fl xs => ∃ i x, e = .int i ∧ atI xs i = some x ∧ Q x
  | .str z => ∃ i c, e = .int i ∧ z.length ≤ sizeLine ∧ atI z.cps.toList i = some c ∧ Q (.str ⟨#[c]⟩)
  | .ref a => (∃ xs i x, M a = some (.lst xs) ∧ e = .int i ∧ atI xs i = some x ∧ Q x) ∨ ∃ kvs x, M a = some (.dic kvs) ∧ keyOk kvs e ∧ dgetD kvs e = some x ∧ Q x
  | _ => False
theorem ixF_mono {d e : D} {M : Mem} {Q Q' : D → Prop} (h : ∀ x, Q x → Q' x) (q : ixF d e M Q) : ixF d e M Q' := by
  cases d <;> first
    | exact q.elim
    | (obtain ⟨i, x, e1, e2, q⟩ := q; exact ⟨i, x, e1, e2, h _ q⟩)
    | (obtain ⟨i, x, e1, e2, e3, q⟩ := q; exact ⟨i, x, e1, e2, e3, h _ q⟩)
    | (rcases q with ⟨xs, i, x, e1, e2, e3, q⟩ | ⟨kvs, x, e1, e2, e3, q⟩
       · exact .inl ⟨xs, i, x, e1, e2, e3, h _ q⟩
       · exact .inr ⟨kvs, x, e1, e2, e3, h _ q⟩)
def rIx : W2 := ⟨fun d e M Q => ixF d e M fun x => Q x M, fun d e M Q Q' h q => ixF_mono (fun x => h x M) q⟩
theorem atI_rel {K : PySem.W.Frag} {H : Hp} {ds : List D} {vs : List V} {i : Int} {x : D} (r : RelDs K H ds vs) (h : atI ds i = some x) : ∃ v, atI vs i = some v ∧ RelD K H x v := by
  unfold atI at h ⊢
  rw [← r.length]
  cases e : ixN ds.length i with
  | none => rw [e] at h; cases h
  | some j =>
    rw [e] at h
    obtain ⟨v, h1, h2⟩ := r.get (i := j) h
    exact ⟨v, h1, h2⟩
structure DIx (X : Cx) (r : W2) : Prop where
  ix : IxR X (l2 X.prog X.w X.K r)
section
variable {X : Cx} {a b : Expr} {wa wb : WE} {pos : Pos}
theorem d_ix (hu : X.A.units + 64 < cLine) : DIx X rIx := ⟨by
  intro value slice pins s σ H x y v u Q I rx ry ⟨d, e, M, Q', rd, re, rm, q, po⟩ hs
  cases rd with
  | tup ht hr =>
    obtain ⟨i, x, rfl, h, q⟩ := q
    cases re
    obtain ⟨v, h1, h2⟩ := atI_rel hr h
    exact ix_tup value slice pins s σ H _ _ _ _ Q I rx ry ⟨_, _, i, v, rfl, rfl, ht.sq, h1, po.here rm h2 q⟩ hs
  | fl ht hr =>
    obtain ⟨i, x, rfl, h, q⟩ := q
    cases re
    obtain ⟨v, h1, h2⟩ := atI_rel hr h
    exact ix_list value slice pins s σ H _ _ _ _ Q I rx ry ⟨_, _, i, v, rfl, rfl, ht.sq, h1, po.here rm h2 q⟩ hs
  | str z =>
    obtain ⟨i, c, rfl, hz, h, q⟩ := q
    cases re
    exact ix_str value slice pins s σ H _ _ _ _ Q I rx ry ⟨z, i, c, rfl, rfl, hz, h, po.here rm (.str _) q⟩ hs
  | ref p =>
    rcases q with ⟨xs, i, x, h0, rfl, h, q⟩ | ⟨kvs, x, h0, ko, h, q⟩
    · obtain ⟨vs, hH, hr⟩ := rm _ _ h0
      cases re
      obtain ⟨v, h1, h2⟩ := atI_rel hr h
      exact ix_list value slice pins s σ H _ _ _ _ Q I rx ry ⟨_, _, i, v, rfl, rfl, .inl (.inl hH), h1, po.here rm h2 q⟩ hs
    · cases rx
      exact tail_any (dic_typeIs I rm h0) PySem.F.slot_dict_getitem.lookup (dic_getItem hu I rm h0 ko h re ry fun v w' s' I' r1 r2 => ⟨v, H, I', r2, po.here rm r1 q⟩) hs
  | _ => exact False.elim q⟩
theorem de_ix {r : W2} (hr : DIx X r) (ha : DE X a wa) (hb : DE X b wb) (hs : PlainIx b := by intro _ _; with_unfolding_all rfl) : DE X (.Subscript a b pos) (wOp r wa wb) :=
  ⟨PE.imp (pe_ix hr.ix ha.pe hb.pe hs) fun σ H Q ⟨ρ, M, Q', rs, rm, q, po⟩ => ⟨ρ, M, _, rs, rm, q, fun x d H1 M1 s1 m1 r1 q1 => ⟨ρ, M1, _, rs.keep (s1.keep rm), m1, q1, fun y e H2 M2 s2 m2 r2 q2 =>
    ⟨d, e, M2, Q', r1.keep (s2.keep m1), r2, m2, q2, (po.after s1).after s2⟩⟩⟩⟩
end

/-! ### slices -/
def cutD {α : Type} (xs : List α) (lo hi : Option Int) : List α := List.take (HT.sIx xs.length xs.length hi - HT.sIx xs.length 0 lo) (List.drop (HT.sIx xs.length 0 lo) xs)
structure WO where
  f : Sl → Mem → (Option Int → Mem → Prop) → Prop
  mono : ∀ ρ M Q Q', (∀ d M, Q d M → Q' d M) → f ρ M Q → f ρ M Q'
def oNone : WO := ⟨fun _ M Q => Q none M, fun _ _ _ _ h q => h _ _ q⟩
def oSome (e : WE) : WO := ⟨fun ρ M Q => e.f ρ M fun d M1 => ∃ i, d = .int i ∧ Q (some i) M1, fun ρ M Q Q' h q => e.mono _ _ _ _ (fun _ _ ⟨i, e, q⟩ => ⟨i, e, h _ _ q⟩) q⟩
def slF (d : D) (lo hi : Option Int) (M : Mem) (Q : D → Mem → Prop) : Prop := match d with
  | .tup xs => Q (.tup (cutD xs lo hi)) M
  | .str z => z.length ≤ sizeLine ∧ Q (.str (cutS z lo hi)) M
  | .fl xs => ∀ p, M p = none → Q (.ref p) (mupd M p (.lst (cutD xs lo hi)))
  | .ref a => ∃ xs, M a = some (.lst xs) ∧ ∀ p, M p = none → Q (.ref p) (mupd M p (.lst (cutD xs lo hi)))
  | _ => False
theorem slF_mono {d : D} {lo hi : Option Int} {M : Mem} {Q Q' : D → Mem → Prop} (h : ∀ d M, Q d M → Q' d M) (q : slF d lo hi M Q) : slF d lo hi M Q' := by
  cases d <;> first
    | exact q.elim
    | exact h _ _ q
    | exact ⟨q.1, h _ _ q.2⟩
    | exact fun p hp => h _ _ (q p hp)
    | (obtain ⟨xs, e, q⟩ := q; exact ⟨xs, e, fun p hp => h _ _ (q p hp)⟩)
def wSl (e : WE) (lo hi : WO) : WE := ⟨fun ρ M Q => e.f ρ M fun d M1 => lo.f ρ M1 fun l M2 => hi.f ρ M2 fun u M3 => slF d l u M3 Q,
  fun ρ M Q Q' h q => e.mono _ _ _ _ (fun _ _ q => lo.mono _ _ _ _ (fun _ _ q => hi.mono _ _ _ _ (fun _ _ q => slF_mono h q) q) q) q⟩
section
variable (P : Program) (w : World) (K : PySem.W.Frag)
def lO (t : WO) : TO := fun σ H Q => ∃ ρ M Q', RelS K H ρ σ ∧ RelM P w K H M ∧ t.f ρ M Q' ∧ ∀ o H' M', Step H M H' M' → RelM P w K H' M' → Q' o M' → Q o H'
def lSl : V → Option Int → Option Int → Hp → VK → Prop := fun x lo hi H Q => ∃ d M Q', RelD K H d x ∧ RelM P w K H M ∧ slF d lo hi M Q' ∧ Post P w K H M Q' Q
end
structure DO (X : Cx) (e : Option Expr) (t : WO) : Prop where
  po : PO X e (lO X.prog X.w X.K t)
theorem PO.imp {X : Cx} {e : Option Expr} {t u : TO} (h : PO X e t) (i : ∀ σ H Q, u σ H Q → t σ H Q) : PO X e u := ⟨fun pins s σ H Q I q => h.run pins s σ H Q I (i _ _ _ q)⟩
theorem cut_rel {K : PySem.W.Frag} {H : Hp} {ds : List D} {vs : List V} (r : RelDs K H ds vs) (lo hi : Option Int) : RelDs K H (cutD ds lo hi) (cutV vs lo hi) := by
  unfold cutD cutV
  rw [← r.length]
  exact (r.drop _).take _
section
variable {X : Cx} {e : Expr} {lo hi : Option Expr} {we : WE} {wl wh : WO} {pos p2 : Pos}
theorem do_none : DO X none oNone := ⟨PO.imp po_none fun σ H Q ⟨ρ, M, Q', rs, rm, q, po⟩ => po none H M Step.refl rm q⟩
theorem do_some (h : DE X e we) : DO X (some e) (oSome we) := ⟨PO.imp (po_some h.pe) fun σ H Q ⟨ρ, M, Q', rs, rm, q, po⟩ => ⟨ρ, M, _, rs, rm, q, fun x d H1 M1 s1 m1 r1 ⟨i, ei, q1⟩ => by
  subst ei
  exact ⟨i, rel_int r1, po _ H1 M1 s1 m1 q1⟩⟩⟩
theorem slR : SlR X (lSl X.prog X.w X.K) := by
  intro pins s σ H x v vl vu lo hi sl Q I rx hs hl hh ⟨d, M, Q', rd, rm, q, po⟩
  cases rd with
  | tup ht hr => exact sl_tupA pins s σ H _ v vl vu lo hi sl Q I rx hs hl hh ⟨_, _, rfl, ht.sq, fun e => po.here rm (.tup ht hr) (by
          have e2 := hr.length
          rw [← e2] at e
          have q' : Q' (.tup (cutD _ lo hi)) M := q
          unfold cutD at q'
          rw [e.1, e.2, List.drop_zero, Nat.sub_zero, List.take_length] at q'
          exact q'),
      fun _ p hp => po _ _ _ M (Step.beside hp) (rm.beside hp) (.tup (.inl upd_same) ((cut_rel hr lo hi).keep (keep_new hp))) q⟩
  | str z => exact sl_str pins s σ H _ v vl vu lo hi sl Q I rx hs hl hh ⟨z, rfl, q.1, po.here rm (.str _) q.2⟩
  | fl ht hr => exact sl_list pins s σ H _ v vl vu lo hi sl Q I rx hs hl hh ⟨_, _, rfl, ht.sq, fun p hp =>
      po _ _ _ _ (Step.new rm hp (.lst _)) (rm.laid hp (keep_new hp) ⟨_, upd_same, (cut_rel hr lo hi).keep (keep_new hp)⟩) (.ref p) (q p (rm.free hp))⟩
  | ref a =>
    obtain ⟨xs, h0, q⟩ := q
    obtain ⟨vs, hH, hr⟩ := rm _ _ h0
    exact sl_list pins s σ H _ v vl vu lo hi sl Q I rx hs hl hh ⟨_, _, rfl, .inl (.inl hH), fun p hp =>
      po _ _ _ _ (Step.new rm hp (.lst _)) (rm.laid hp (keep_new hp) ⟨_, upd_same, (cut_rel hr lo hi).keep (keep_new hp)⟩) (.ref p) (q p (rm.free hp))⟩
  | _ => exact False.elim q
theorem de_slice (he : DE X e we) (hl : DO X lo wl) (hh : DO X hi wh) : DE X (.Subscript e (.Slice lo hi none p2) pos) (wSl we wl wh) :=
  ⟨PE.imp (pe_slice slR he.pe hl.po hh.po) fun σ H Q ⟨ρ, M, Q', rs, rm, q, po⟩ => ⟨ρ, M, _, rs, rm, q, fun x d H1 M1 s1 m1 r1 q1 => ⟨ρ, M1, _, rs.keep (s1.keep rm), m1, q1, fun l H2 M2 s2 m2 q2 =>
    ⟨ρ, M2, _, rs.keep ((s1.trans s2).keep rm), m2, q2, fun u H3 M3 s3 m3 q3 => ⟨d, M3, Q', r1.keep ((s2.trans s3).keep m1), m3, q3, ((po.after s1).after s2).after s3⟩⟩⟩⟩⟩
end

/-! ### o[i] = v -/
theorem any_dget (d : D) : ∀ kvs : List (D × D), (kvs.any fun p => decide (p.1.key = d.key)) = (dgetD kvs d).isSome
  | [] => rfl
  | p :: r => by
    rw [List.any_cons, dgetD, List.find?_cons]
    by_cases e : p.1.key = d.key
    · rw [decide_eq_true e]; rfl
    · rw [decide_eq_false e, Bool.false_or, any_dget d r]; rfl
section
variable {K : PySem.W.Frag} {H : Hp}
theorem EntN.put1 : ∀ {kvs : List (D × D)} {L : List (NestedKey × Addr × Value)} {d : D} {k : NestedKey} {x : D} {v : V} {u : Value}, EntN K H kvs L → d.key = some k → RelD K H x v → RelV v u →
    EntN K H (kvs.map fun p => if p.1.key = d.key then (p.1, x) else p) (L.map (putAt k u))
  | [], [], _, _, _, _, _, _, _, _, _ => ⟨[], rfl, .nil, .nil, .nil⟩
  | [], _ :: _, _, _, _, _, _, ⟨_, h, _⟩, _, _, _ => by simp at h
  | _ :: _, [], _, _, _, _, _, ⟨_, h, _⟩, _, _, _ => by simp at h
  | p :: kvs, q :: L, d, k, x, v, u, ⟨vs, h, r1, r2, r3⟩, hd, rx, ru => by
    rw [List.map_cons, List.map_cons] at h
    injection h with h1 h2
    cases r1 with
    | cons a1 a2 =>
      cases r2 with
      | cons b1 b2 =>
        cases r3 with
        | cons c1 c2 =>
          rename_i vv _
          obtain ⟨vs', i1, i2, i3, i4⟩ := EntN.put1 (kvs := kvs) (L := L) (d := d) (k := k) ⟨_, h2, a2, b2, c2⟩ hd rx ru
          by_cases he : q.1 = k
          · have e : p.1.key = d.key := by rw [h1, hd, he]
            refine ⟨v :: vs', ?_, ?_, ?_, ?_⟩
            · rw [List.map_cons, List.map_cons, List.map_cons, List.map_cons, i1, if_pos e, putAt, if_pos he]; exact congrArg (· :: _) h1
            · rw [List.map_cons, List.map_cons, List.map_cons, List.map_cons, if_pos e, putAt, if_pos he]; exact .cons a1 i2
            · rw [List.map_cons, List.map_cons, if_pos e]; exact .cons rx i3
            · rw [List.map_cons, List.map_cons, putAt, if_pos he]; exact .cons ru i4
          · have e : ¬ p.1.key = d.key := by rw [h1, hd]; intro z; exact he (Option.some.inj z)
            refine ⟨vv :: vs', ?_, ?_, ?_, ?_⟩
            · rw [List.map_cons, List.map_cons, List.map_cons, List.map_cons, i1, if_neg e, putAt, if_neg he]; exact congrArg (· :: _) h1
            · rw [List.map_cons, List.map_cons, List.map_cons, List.map_cons, if_neg e, putAt, if_neg he]; exact .cons a1 i2
            · rw [List.map_cons, List.map_cons, if_neg e]; exact .cons b1 i3
            · rw [List.map_cons, List.map_cons, putAt, if_neg he]; exact .cons c1 i4
theorem vals_app {xs ys : List V} {us ws : List Value} (a : Vals xs us) (b : Vals ys ws) : Vals (xs ++ ys) (us ++ ws) := by
  induction a with
  | nil => exact b
  | cons r _ ih => exact .cons r ih
theorem EntN.put {kvs : List (D × D)} {L : List (NestedKey × Addr × Value)} {d x : D} {k : NestedKey} {b : Addr} {v : V} {u : Value} (en : EntN K H kvs L) (hd : d.key = some k) (rd : RelD K H d (.ref b)) (rx : RelD K H x v) (ru : RelV v u) :
    EntN K H (dputD kvs d x) (storedH L k b u) := by
  unfold dputD storedH
  rw [any_dget]
  cases g : dgetD kvs d with
  | none =>
    rw [(en.at hd).1 g]
    obtain ⟨vs, h, r1, r2, r3⟩ := en
    refine ⟨vs ++ [v], ?_, ?_, ?_, ?_⟩
    · simp only [Option.isSome_none, if_false, List.map_append, List.map_cons, List.map_nil, h, hd, Bool.false_eq_true]
    · simp only [Option.isSome_none, if_false, List.map_append, List.map_cons, List.map_nil, Bool.false_eq_true]; exact r1.append (.cons rd .nil)
    · simp only [Option.isSome_none, if_false, List.map_append, List.map_cons, List.map_nil, Bool.false_eq_true]; exact r2.append (.cons rx .nil)
    · simp only [Option.isSome_none, if_false, List.map_append, List.map_cons, List.map_nil, Bool.false_eq_true]; exact vals_app r3 (.cons ru .nil)
  | some y =>
    obtain ⟨b', u', v', h1, _⟩ := (en.at hd).2 y g
    rw [h1]
    exact EntN.put1 en hd rx ru
theorem putK_rel {kvs : List (D × D)} {L : List (Key × V)} {d x : D} {k : Key} {v : V} (hd : d.pkey = some k) (h : kvs.map (fun p => p.1.pkey) = L.map (fun p => some p.1)) (r : RelDs K H (kvs.map (·.2)) (L.map (·.2))) (rx : RelD K H x v) :
    (dputD kvs d x).map (fun p => p.1.pkey) = (putK L k v).map (fun p => some p.1) ∧ RelDs K H ((dputD kvs d x).map (·.2)) ((putK L k v).map (·.2)) := by
  have put1 : ∀ {kvs : List (D × D)} {L : List (Key × V)}, kvs.map (fun p => p.1.pkey) = L.map (fun p => some p.1) → RelDs K H (kvs.map (·.2)) (L.map (·.2)) →
      (kvs.map fun p => if p.1.key = d.key then (p.1, x) else p).map (fun p => p.1.pkey) = (L.map fun q => if q.1 = k then (q.1, v) else q).map (fun p => some p.1) ∧
      RelDs K H ((kvs.map fun p => if p.1.key = d.key then (p.1, x) else p).map (·.2)) ((L.map fun q => if q.1 = k then (q.1, v) else q).map (·.2)) := by
    intro kvs
    induction kvs with
    | nil => intro L h r; cases L with
      | nil => exact ⟨rfl, .nil⟩
      | cons q L => simp at h
    | cons p kvs ih => intro L h r; cases L with
      | nil => simp at h
      | cons q L =>
        rw [List.map_cons, List.map_cons] at h
        injection h with h1 h2
        cases r with
        | cons r1 r2 =>
          obtain ⟨i1, i2⟩ := ih h2 r2
          have e := pkey_eq h1 hd
          by_cases he : q.1 = k
          · rw [decide_eq_true he] at e
            have e := of_decide_eq_true e
            rw [List.map_cons, List.map_cons, List.map_cons, List.map_cons, List.map_cons, List.map_cons, i1, if_pos e, if_pos he]
            exact ⟨congrArg (· :: _) h1, .cons rx i2⟩
          · rw [decide_eq_false he] at e
            have e := of_decide_eq_false e
            rw [List.map_cons, List.map_cons, List.map_cons, List.map_cons, List.map_cons, List.map_cons, i1, if_neg e, if_neg he]
            exact ⟨congrArg (· :: _) h1, .cons r1 i2⟩
  unfold dputD putK
  rw [any_dget, valV_any]
  cases g : dgetD kvs d with
  | none =>
    rw [(valV_rel hd h r).1 g]
    simp only [Option.isSome_none, if_false, List.map_append, List.map_cons, List.map_nil, Bool.false_eq_true]
    exact ⟨by rw [h, hd], r.append (.cons rx .nil)⟩
  | some y =>
    obtain ⟨v', h1, _⟩ := (valV_rel hd h r).2 y g
    rw [h1]
    exact put1 h r
end
theorem dput_len (kvs : List (D × D)) (d x : D) : (dputD kvs d x).length ≤ kvs.length + 1 := by
  unfold dputD
  split
  · rw [List.length_map]; omega
  · rw [List.length_append]; simp
theorem dput_tup {kvs : List (D × D)} {d x : D} (h : ∀ p ∈ kvs, p.1.isTup = true) (hd : d.isTup = true) : ∀ p ∈ dputD kvs d x, p.1.isTup = true := by
  intro p hp
  unfold dputD at hp
  split at hp
  · obtain ⟨q, hq, e⟩ := List.mem_map.mp hp
    split at e
    · rw [← e]; exact h q hq
    · rw [← e]; exact h q hq
  · rcases List.mem_append.mp hp with hp | hp
    · exact h p hp
    · rw [List.mem_singleton.mp hp]; exact hd
theorem dput_ne {kvs : List (D × D)} {d x : D} : dputD kvs d x ≠ [] := by
  unfold dputD
  split
  · rename_i h
    cases kvs with
    | nil => simp at h
    | cons p r => simp
  · simp
theorem storedH_deep {L : List (NestedKey × Addr × Value)} {k : NestedKey} {b : Addr} {u : Value} (h : ∀ p ∈ L, p.1.depth ≤ 8) (hk : k.depth ≤ 8) : ∀ p ∈ storedH L k b u, p.1.depth ≤ 8 := by
  intro p hp
  unfold storedH at hp
  split at hp
  · obtain ⟨q, hq, e⟩ := List.mem_map.mp hp
    unfold putAt at e
    split at e
    · rw [← e]; exact h q hq
    · rw [← e]; exact h q hq
  · rcases List.mem_append.mp hp with hp | hp
    · exact h p hp
    · rw [List.mem_singleton.mp hp]; exact hk
section
variable {X : Cx} {pins : List (Addr × Obj)} {σ : L2.St} {H : Hp} {s : Shared} {M : Mem} {A : Around} {E : Value → Shared → Prop}
theorem dic_setItem (hu : A.units + 64 < cLine) (I : Inv X pins σ H s) (rm : RelM X.prog X.w X.K H M) {a : Addr} {kvs : List (D × D)} (h : M a = some (.dic kvs)) {e x : D} {y v : V} {u z : Value} (ko : keyOk kvs e) (hl : kvs.length < sizeLine) (re : RelD X.K H e y) (ry : RelV y u) (rx : RelD X.K H x v) (rv : RelV v z)
    {Q : Unit → Shared → Prop} (q : ∀ H' s', Inv X pins σ H' s' → Step H M H' (mupd M a (.dic (dputD kvs e x))) → RelM X.prog X.w X.K H' (mupd M a (.dic (dputD kvs e x))) → Q () s') : wpAny (model X.prog X.w) A (setItem (.ref a) u z) Q E s := by
  rcases ko with ⟨k1, k2⟩ | ⟨k1, k2, k, k3, k4⟩
  · obtain ⟨L, e1, q1, q2⟩ := dic_k rm h k2
    obtain ⟨k, hk⟩ := Option.isSome_iff_exists.mp k1
    have ey := pkey_rel hk re
    subst ey
    have hLl : L.length < sizeLine := by
      have := congrArg List.length q1
      rw [List.length_map, List.length_map] at this
      omega
    obtain ⟨p1, p2⟩ := putK_rel hk q1 q2 rx
    exact d_setItem (by omega) I (.k e1 hLl) ry rv fun s' I' => q _ s' I' (Step.write h) (rm.write h (fun _ z => nomatch z) (.inl ⟨_, upd_same, p1, p2.keep (rm.keepW h)⟩))
  · obtain ⟨L, dd, en, hz, hd⟩ := dic_n I rm h k2
    obtain ⟨b', rfl⟩ := tup_rel k1 re
    cases ry
    have hn := Inv.nested I k3 re rfl
    have deep : ∀ p ∈ L, p.1.depth ≤ 8 := fun p hp => by
      obtain ⟨_, _, _, _, _, _, _, his, _⟩ := id dd
      exact (his p hp).2
    have hL : L.length = kvs.length := by
      obtain ⟨_, e1, _⟩ := en
      have := congrArg List.length e1
      rw [List.length_map, List.length_map] at this
      omega
    refine wpAny_setItem_heap (knd := nestedKind X.prog X.w) (k := k) (hsz := hz) (show A.in1.units + 8 < cLine by show A.units + 1 + 8 < cLine; omega) ⟨hn, k4⟩ dd fun h' dd' hs => ?_
    have en' := en.put k3 re rx rv
    have hl' : (storedH L k b' z).length ≤ sizeLine := by
      unfold storedH
      split
      · rw [List.length_map]; exact hz
      · rw [List.length_append]; simp; omega
    obtain ⟨o, es, ep, h1, h2, h3, h4, _, h6⟩ := dd'
    have mu : Mut (H a) := by obtain ⟨u', hu', m⟩ := rm.mut h; rw [hu']; exact m
    have kw := rm.keepW (u := RawD X.prog X.w a (storedH L k b' z)) h
    obtain ⟨vs, n1, n2, n3, n4⟩ := en'
    refine q (upd H a (RawD X.prog X.w a (storedH L k b' z))) _ (d_write I mu hs ⟨o, h1⟩ ⟨⟨hl', hd, o, es, ep, h1, h2, h3, h4, h6⟩, ⟨o, h1⟩, ?_⟩) (Step.write h) (rm.write h (fun _ z => nomatch z) (.inr ⟨_, vs, upd_same, n1, n2.keep kw, ⟨dput_tup k2 k1, dput_ne, storedH_deep deep k4⟩, n3.keep kw, n4⟩))
    intro hA hB ⟨p1, p2, o, es, ep, g1, g2⟩ st
    exact ⟨p1, p2, o, es, ep, st o g1, g2⟩
end
def putF (d e x : D) (M : Mem) (Q : Mem → Prop) : Prop := match d with
  | .ref a => (∃ xs k j, M a = some (.lst xs) ∧ e = .int k ∧ ixN xs.length k = some j ∧ Q (mupd M a (.lst (xs.set j x)))) ∨ ∃ kvs, M a = some (.dic kvs) ∧ keyOk kvs e ∧ kvs.length < sizeLine ∧ Q (mupd M a (.dic (dputD kvs e x)))
  | _ => False
theorem putF_mono {d e x : D} {M : Mem} {Q Q' : Mem → Prop} (h : ∀ M, Q M → Q' M) (q : putF d e x M Q) : putF d e x M Q' := by
  cases d <;> first
    | exact q.elim
    | (rcases q with ⟨xs, k, j, e1, e2, e3, q⟩ | ⟨kvs, e1, e2, e3, q⟩
       · exact .inl ⟨xs, k, j, e1, e2, e3, h _ q⟩
       · exact .inr ⟨kvs, e1, e2, e3, h _ q⟩)
def lPut (P : Program) (w : World) (K : PySem.W.Frag) : TSet := fun o i v H Q => ∃ d e x M Q', RelD K H d o ∧ RelD K H e i ∧ RelD K H x v ∧ RelM P w K H M ∧ putF d e x M Q' ∧ ∀ H' M', Step H M H' M' → RelM P w K H' M' → Q' M' → Q H'
/-- o[i] as a target -/
def gSubD (o i : WE) : WG := ⟨[], fun x ρ M Q => o.f ρ M fun d M1 => i.f ρ M1 fun e M2 => putF d e x M2 fun M3 => Q ρ M3,
  fun d ρ M Q Q' h q => o.mono _ _ _ _ (fun _ _ q => i.mono _ _ _ _ (fun _ _ q => putF_mono (fun M => h ρ M) q) q) q⟩
section
variable {X : Cx} {o i : Expr} {wo wi : WE} {pos : Pos}
theorem putR (hu : X.A.units + 64 < cLine) : PSet X (lPut X.prog X.w X.K) := by
  intro pins s σ H o i v ov iv u Q I ro ri rv ⟨d, e, x, M, Q', rd, re, rx, rm, q, po⟩
  cases rd with
  | ref a =>
    rcases q with ⟨xs, k, j, h0, rfl, hk, q⟩ | ⟨kvs, h0, ko, hl, q⟩
    · obtain ⟨vs, hH, hr⟩ := rm _ _ h0
      cases re
      exact set_list pins s σ H _ _ v ov iv u Q I ro ri rv ⟨a, vs, k, j, rfl, rfl, hH, by rw [← hr.length]; exact hk, po _ (mupd M a (.lst (xs.set j x))) (Step.write h0) (rm.write h0 (fun _ z => nomatch z) ⟨_, upd_same, (hr.set j rx).keep (rm.keepW h0)⟩) q⟩
    · cases ro
      exact dic_setItem hu I rm h0 ko hl re ri rx rv fun H' s' I' st rm' => ⟨H', I', po _ _ st rm' q⟩
  | _ => exact False.elim q
theorem dg_sub (hu : X.A.units + 64 < cLine) (ho : DE X o wo) (hi : DE X i wi)
    (hs : ∀ v, assign (.Subscript o i pos) X.env v = (do let ov ← holding [v] (eval o X.env); let iv ← holding [v, ov] (eval i X.env); standAt pos; holding [v, ov, iv] (setItem ov iv v); release [v, ov, iv] []) := by intro _; rfl) : DG X (.Subscript o i pos) (gSubD wo wi) :=
  ⟨PG.imp (pg_sub ho.pe hi.pe (putR hu) hs) fun v σ H Q ⟨x, ρ, M, Q', rx, rs, rm, q, po⟩ => ⟨ρ, M, _, rs, rm, q, fun ov d H1 M1 s1 m1 r1 q1 => ⟨ρ, M1, _, rs.keep (s1.keep rm), m1, q1, fun iv e H2 M2 s2 m2 r2 q2 =>
    ⟨d, e, x, M2, _, r1.keep (s2.keep m1), r2, rx.keep ((s1.trans s2).keep rm), m2, q2, fun H3 M3 s3 m3 q3 => po σ ρ H3 M3 (s1.trans (s2.trans s3)) m3 (rs.keep ((s1.trans (s2.trans s3)).keep rm)) SlSame.refl q3⟩⟩⟩⟩
end
end MP

namespace MP
open PySem PySem.Spec PyProof.Rows L2

/-! ### methods of built-in types -/
structure WM where
  f : D → List D → Mem → (D → Mem → Prop) → Prop
  mono : ∀ d ds M Q Q', (∀ d M, Q d M → Q' d M) → f d ds M Q → f d ds M Q'
def tyD (T : String) (d : D) (M : Mem) : Prop := match d with
  | .str _ => T = "str"
  | .fl _ => T = "list"
  | .ref a => (T = "list" ∧ ∃ xs, M a = some (.lst xs)) ∨ (T = "dict" ∧ ∃ kvs, M a = some (.dic kvs))
  | _ => False
theorem tyD_is {X : Cx} {pins : List (Addr × Obj)} {σ : L2.St} {H : Hp} {s : Shared} {M : Mem} {T : String} {d : D} {x : V} {v : Value} (I : Inv X pins σ H s) (rm : RelM X.prog X.w X.K H M) (rd : RelD X.K H d x) (r : RelV x v) (ty : tyD T d M) :
    s.TypeIs v T ∧ ∀ a, v = .ref a → ∃ ob, s.heap.get? a = some ob ∧ ob.dict = none := by
  cases rd with
  | str z => exact tyV_is I r ty
  | fl ht hr => exact tyV_is I r (.inl ⟨ty, _, ht.sq⟩)
  | ref a =>
    rcases ty with ⟨e, xs, h⟩ | ⟨e, kvs, h⟩
    · obtain ⟨vs, hH, _⟩ := rm _ _ h
      exact tyV_is I r (.inl ⟨e, vs, .inl (.inl hH)⟩)
    · subst e
      cases r
      refine ⟨dic_typeIs I rm h, fun a e => ?_⟩
      cases e
      rcases rm a _ h with ⟨L, e, q1, q2⟩ | ⟨L, vs, e, q1, q2, q3, q4, q5⟩
      · obtain ⟨_, _, vs, _, ob, _, _, h1, h2, _⟩ := dk_of I.hok e
        exact ⟨ob, h1, h2.2.1⟩
      · obtain ⟨⟨z, hd, o, es, ep, h1, h2, h3, h4, h5⟩, _⟩ := (show ObjOk X.prog X.w H s.heap a (RawD X.prog X.w a L) from I.hok a _ e)
        exact ⟨o, h1, h2.2.1⟩
  | _ => exact False.elim ty
def wBM (T : String) (r : WM) (o : WE) (t : WA) : WE := ⟨fun ρ M Q => o.f ρ M fun d M1 => tyD T d M1 ∧ t.f ρ M1 fun ds M2 => r.f d ds M2 Q,
  fun ρ M Q Q' h q => o.mono _ _ _ _ (fun _ _ q => ⟨q.1, t.mono _ _ _ _ (fun _ _ q => r.mono _ _ _ _ _ h q) q.2⟩) q⟩
def lM (P : Program) (w : World) (K : PySem.W.Frag) (r : WM) : V → List V → Hp → VK → Prop := fun x xs H Q => ∃ d ds M Q', RelD K H d x ∧ RelDs K H ds xs ∧ RelM P w K H M ∧ r.f d ds M Q' ∧ Post P w K H M Q' Q
structure DM (X : Cx) (T : String) (name : Str) (r : WM) : Prop where
  pr : ∃ id, PlainAttrs T ∧ Slot T name id ∧ typeOf (.builtin id) = pure (.type "method_descriptor") ∧ MtR X id (lM X.prog X.w X.K r)
section
variable {X : Cx} {o e : Expr} {es : List Expr} {wo : WE} {t : WA} {name : Str} {apos cpos : Pos} {T : String} {r : WM}
theorem de_bm (hm : DM X T name r) (ho : DE X o wo) (ha : DA X (e :: es) t)
    (hbase : attributeBase o name X.env (eval o X.env) = eval o X.env := by rfl)
    (hfew : ((backTo cpos (starEach (e :: es) X.env)).all (fun x => !x.1) && (backToKw cpos (keywordEach [] X.env)).all (fun x => x.1.isSome) && decide ((e :: es).length + ([] : List Keyword).length + (if ([] : List Keyword).isEmpty then 0 else 1) < 30)) = true := by rfl)
    (hline : (apos.endLine == cpos.line) = true := by rfl) (hs : starEach (e :: es) X.env = (false, eval e X.env) :: starEach es X.env := by rfl) (hplain : (backTo cpos (starEach es X.env)).any (·.1) = false := by rfl) :
    DE X (.Call (.Attribute o name apos) (e :: es) [] cpos) (wBM T r wo t) := ⟨by
  obtain ⟨id, pa, slot, hty, hm⟩ := hm.pr
  refine ⟨fun pins s σ H Q I ⟨ρ, M, Q', rs, rm, q, po⟩ => ?_⟩
  refine wpAny_Call_method_late hbase hfew hline rfl (thn (ho.pe.run pins s σ H (fun x H1 => ∃ d M1, RelD X.K H1 d x ∧ Step H M H1 M1 ∧ RelM X.prog X.w X.K H1 M1 ∧ tyD T d M1 ∧ t.f ρ M1 fun ds M2 => r.f d ds M2 Q') I
    ⟨ρ, M, _, rs, rm, q, fun x d H1 M1 s1 m1 r1 q1 => ⟨d, M1, r1, s1, m1, q1.1, q1.2⟩⟩) fun v s1 ⟨x, H1, I1, rx, d, M1, rd, st1, m1, ty, q1⟩ => ?_)
  obtain ⟨h1, h2⟩ := tyD_is I1 m1 rd rx ty
  refine ⟨T, id, pa, slot, hty, h1, h2, ?_⟩
  have hA := ha.pa.run cpos pins s1 σ H1 (fun xs H2 => lM X.prog X.w X.K r x xs H2 Q) I1 ⟨ρ, M1, _, rs.keep (st1.keep rm), m1, q1, fun xs ds H2 M2 s2 m2 r2 q2 => ⟨d, ds, M2, Q', rd.keep (s2.keep m1), r2, m2, q2, (po.after st1).after s2⟩⟩
  rw [hs] at hA ⊢
  refine Calls.callWith_builtin (by show (false || (backTo cpos (starEach es X.env)).any (·.1)) = false; rw [hplain] <;> rfl) (Calls.evalArgs_plain ?_)
  exact thn hA fun us s2 ⟨vs, H2, I2, r2, q2⟩ => hm pins s2 σ H2 x vs v us Q I2 rx r2 q2⟩
theorem de_bm0 (hm : DM X T name r) (ho : DE X o wo) (hbase : attributeBase o name X.env (eval o X.env) = eval o X.env := by rfl) (hline : (apos.endLine == cpos.line) = true := by rfl) :
    DE X (.Call (.Attribute o name apos) [] [] cpos) (wBM T r wo aNil) := ⟨by
  obtain ⟨id, pa, slot, hty, hm⟩ := hm.pr
  refine ⟨fun pins s σ H Q I ⟨ρ, M, Q', rs, rm, q, po⟩ => ?_⟩
  refine wpAny_Call_method0_late hbase hline (thn (ho.pe.run pins s σ H (fun x H1 => ∃ d M1, RelD X.K H1 d x ∧ Step H M H1 M1 ∧ RelM X.prog X.w X.K H1 M1 ∧ tyD T d M1 ∧ r.f d [] M1 Q') I
    ⟨ρ, M, _, rs, rm, q, fun x d H1 M1 s1 m1 r1 q1 => ⟨d, M1, r1, s1, m1, q1.1, q1.2⟩⟩) fun v s1 ⟨x, H1, I1, rx, d, M1, rd, st1, m1, ty, q1⟩ => ?_)
  obtain ⟨h1, h2⟩ := tyD_is I1 m1 rd rx ty
  exact ⟨T, id, pa, slot, hty, h1, h2, Calls.callWith_builtin rfl (PySem.evalArgs_none (hm pins s1 σ H1 x [] v [] Q I1 rx .nil ⟨d, [], M1, Q', rd, .nil, m1, q1, po.after st1⟩))⟩⟩
end
def mAppend : WM := ⟨fun d ds M Q => ∃ a xs y, d = .ref a ∧ ds = [y] ∧ M a = some (.lst xs) ∧ xs.length < sizeLine ∧ Q .non (mupd M a (.lst (xs ++ [y]))),
  fun _ _ _ _ _ h ⟨a, xs, y, e1, e2, e3, e4, q⟩ => ⟨a, xs, y, e1, e2, e3, e4, h _ _ q⟩⟩
def mExtend : WM := ⟨fun d ds M Q => ∃ a b xs ys, d = .ref a ∧ ds = [.ref b] ∧ M a = some (.lst xs) ∧ M b = some (.lst ys) ∧ xs.length + ys.length ≤ sizeLine ∧ Q .non (mupd M a (.lst (xs ++ ys))),
  fun _ _ _ _ _ h ⟨a, b, xs, y, e1, e2, e3, e4, e5, q⟩ => ⟨a, b, xs, y, e1, e2, e3, e4, e5, h _ _ q⟩⟩
/-- l.pop(), l.pop(i) -/
def mPop : WM := ⟨fun d ds M Q => ∃ a xs, d = .ref a ∧ M a = some (.lst xs) ∧ ((∃ y, ds = [] ∧ xs[xs.length - 1]? = some y ∧ Q y (mupd M a (.lst xs.dropLast))) ∨
    ∃ i k y, ds = [.int i] ∧ -(2 ^ 63) ≤ i ∧ i < 2 ^ 63 ∧ seqIndex? i xs.length = some k ∧ xs[k]? = some y ∧ Q y (mupd M a (.lst (xs.eraseIdx k)))),
  fun _ _ _ _ _ h ⟨a, xs, e1, e2, q⟩ => ⟨a, xs, e1, e2, q.imp (fun ⟨y, e3, e4, q⟩ => ⟨y, e3, e4, h _ _ q⟩) fun ⟨i, k, y, e3, e4, e5, e6, e7, q⟩ => ⟨i, k, y, e3, e4, e5, e6, e7, h _ _ q⟩⟩⟩
/-- l.index(x) -/
def mIndex : WM := ⟨fun d ds M Q => ∃ a xs y j, d = .ref a ∧ ds = [y] ∧ M a = some (.lst xs) ∧ D.pls xs ∧ y.pl ∧ min (D.deps xs) y.dep ≤ 60 ∧ (xs.findIdx? fun x => eqD x y) = some j ∧ Q (.int (j : Nat)) M,
  fun _ _ _ _ _ h ⟨a, xs, y, j, e1, e2, e3, e4, e5, e6, e7, q⟩ => ⟨a, xs, y, j, e1, e2, e3, e4, e5, e6, e7, h _ _ q⟩⟩
section
variable {X : Cx}
theorem dm_append : DM X "list" "append" mAppend := ⟨_, PySem.F.plainAttrs_list, PySem.F.slot_list_append, PySem.F.type_list_append, fun pins s σ H x xs v us Q I rx rv ⟨d, ds, M, Q', rd, rds, rm, q, po⟩ => by
  obtain ⟨a, ys, y, rfl, rfl, h0, hz, q⟩ := q
  obtain ⟨vs, hH, hr⟩ := rm _ _ h0
  obtain ⟨y', rfl, ry⟩ := rel1 rds
  exact mt_append pins s σ H x _ v us Q I rx rv ⟨a, vs, y', rel_ref rd, rfl, hH, by rw [← hr.length]; exact hz, po .non .non _ (mupd M a (.lst (ys ++ [y]))) (Step.write h0) (rm.write h0 (fun _ z => nomatch z) ⟨_, upd_same, (hr.append (.cons ry .nil)).keep (rm.keepW h0)⟩) .non q⟩⟩
theorem dm_extend : DM X "list" "extend" mExtend := ⟨_, PySem.F.plainAttrs_list, PySem.F.slot_list_extend, PySem.F.type_list_extend, fun pins s σ H x xs v us Q I rx rv ⟨d, ds, M, Q', rd, rds, rm, q, po⟩ => by
  obtain ⟨a, b, ys, zs, rfl, rfl, h0, h1, hz, q⟩ := q
  obtain ⟨vs, hH, hr⟩ := rm _ _ h0
  obtain ⟨ws, hB, hr2⟩ := rm _ _ h1
  obtain ⟨y', rfl, ry⟩ := rel1 rds
  exact mt_extend pins s σ H x _ v us Q I rx rv ⟨a, b, vs, ws, rel_ref rd, by rw [rel_ref ry], hH, hB, by rw [← hr.length, ← hr2.length]; exact hz, po .non .non _ (mupd M a (.lst (ys ++ zs))) (Step.write h0) (rm.write h0 (fun _ z => nomatch z) ⟨_, upd_same, (hr.append hr2).keep (rm.keepW h0)⟩) .non q⟩⟩
theorem dm_pop : DM X "list" "pop" mPop := ⟨_, PySem.F.plainAttrs_list, PySem.F.slot_list_pop, PySem.F.type_list_pop, fun pins s σ H x xs v us Q I rx rv ⟨d, ds, M, Q', rd, rds, rm, q, po⟩ => by
  obtain ⟨a, ys, rfl, h0, q⟩ := q
  obtain ⟨vs, hH, hr⟩ := rm _ _ h0
  rcases q with ⟨y, rfl, hy, q⟩ | ⟨i, k, y, rfl, h1, h2, h3, hy, q⟩
  · cases rds
    obtain ⟨v', hv, rv'⟩ := hr.get hy
    exact mt_pop pins s σ H x _ v us Q I rx rv ⟨a, vs, v', rel_ref rd, rfl, hH, by rw [← hr.length]; exact hv, po v' y _ (mupd M a (.lst ys.dropLast)) (Step.write h0) (rm.write h0 (fun _ z => nomatch z) ⟨_, upd_same, hr.dropLast.keep (rm.keepW h0)⟩) (rv'.keep (rm.keepW h0)) q⟩
  · obtain ⟨y', rfl, ry⟩ := rel1 rds
    obtain ⟨v', hv, rv'⟩ := hr.get hy
    exact mt_popAt pins s σ H x _ v us Q I rx rv ⟨a, vs, i, k, v', rel_ref rd, by rw [rel_int ry], hH, h1, h2, by rw [← hr.length]; exact h3, hv, po v' y _ (mupd M a (.lst (ys.eraseIdx k))) (Step.write h0) (rm.write h0 (fun _ z => nomatch z) ⟨_, upd_same, (hr.eraseIdx k).keep (rm.keepW h0)⟩) (rv'.keep (rm.keepW h0)) q⟩⟩
theorem findIdx_py (y : D) : ∀ xs : List D, (PySem.SeqAt.dataPlace (D.pys xs) y.py) = xs.findIdx? fun x => eqD x y := fun xs => by
  rw [PySem.SeqAt.dataPlace, pys_map, List.findIdx?_map]; rfl
theorem dm_index (hu : X.A.units + 64 < cLine) : DM X "list" "index" mIndex := ⟨_, PySem.F.plainAttrs_list, PySem.F.slot_list_index, PySem.F.type_list_index, fun pins s σ H x xs v us Q I rx rv ⟨d, ds, M, Q', rd, rds, rm, q, po⟩ => by
  obtain ⟨a, ys, y, j, rfl, rfl, h0, p1, p2, hz, hj, q⟩ := q
  obtain ⟨vs, hH, hr⟩ := rm _ _ h0
  obtain ⟨y', rfl, ry⟩ := rel1 rds
  rw [rel_ref rd] at rx
  cases rx
  obtain ⟨u, rfl, ru⟩ := vals1 rv
  obtain ⟨bs, g2⟩ := Inv.rd I ry p2 ru
  obtain ⟨its, rits, ⟨ob, n, ho, hc, hdn, hdt⟩, hlen⟩ := I.list (.inl (.inl hH))
  obtain ⟨cls, dd, data, sls⟩ := ob
  simp only at hc hdn hdt
  subst hc hdn hdt
  obtain ⟨as, g1⟩ := Inv.rds I hr p1 rits
  have g1' : ReadsAll s.heap its.toArray.toList (D.pys ys) as := g1
  obtain ⟨hjs, e1, e2⟩ := PySem.SeqAt.hit_at g1' p1 (by rw [findIdx_py]; exact hj)
  have hs63 := sizeLine_eq
  have hl2 := rits.length
  have hjn : j < its.length := by simpa using hjs
  exact call_meets PySem.F.slot_list_index ⟨_, ho, rfl⟩ PySem.F.entry_list_index (PySem.F.args_list_index_2 _ _) (PySem.SeqAt.list_indexAt a its.toArray n none sls u (fun z => PyData.eqv (PySem.SeqAt.readOf s.heap z) y.py) j hjs (by omega) e1 fun m hm hmj => e2 m hm hmj)
    ⟨ho, PySem.SeqAt.items_plain g1' g2 p1 p2 (by have : min (PyData.depthAll (D.pys ys)) y.py.depth ≤ 60 := hz; omega), .int (j : Nat), H, I.tok _, ⟨_, rfl⟩, po.here rm (.int _) q⟩⟩
end

/-! ### built-in functions -/
structure DF (X : Cx) (f : Value) (r : WN) : Prop where
  op : DN X f r
section
variable {X : Cx}
theorem d_imp {f : Value} {r : WN} {t : List V → Hp → VK → Prop} (h : CallR X f t) (i : ∀ xs H Q, lN X.prog X.w X.K r xs H Q → t xs H Q) : DN X f r := ⟨fun pins s σ H xs us Q I rx q => h pins s σ H xs us Q I rx (i xs H Q q)⟩
end
/-- of an int -/
def nInt1 (g : Int → D) : WN := ⟨fun ds M Q => ∃ i, ds = [.int i] ∧ Q (g i) M, fun _ _ _ _ h ⟨i, e, q⟩ => ⟨i, e, h _ _ q⟩⟩
def nInt2 (g : Int → Int → D) : WN := ⟨fun ds M Q => ∃ i j, ds = [.int i, .int j] ∧ Q (g i j) M, fun _ _ _ _ h ⟨i, j, e, q⟩ => ⟨i, j, e, h _ _ q⟩⟩
abbrev nAbs : WN := nInt1 fun i => .int (if i < 0 then -i else i)
abbrev nMax2 : WN := nInt2 fun i j => .int (if j > i then j else i)
abbrev nMin2 : WN := nInt2 fun i j => .int (if j < i then j else i)
/-- int(x) of an int or a bool -/
def nInt : WN := ⟨fun ds M Q => match ds with
    | [.int i] => Q (.int i) M
    | [.bl b] => Q (.int (if b = true then 1 else 0)) M
    | _ => False, fun ds M Q Q' h q => by
  split at q
  · exact h _ _ q
  · exact h _ _ q
  · exact q.elim⟩
def nStrI : WN := ⟨fun ds M Q => ∃ i, ds = [.int i] ∧ i.natAbs.log2 < 1920 ∧ Q (.str (toString i)) M, fun _ _ _ _ h ⟨i, e, e2, q⟩ => ⟨i, e, e2, h _ _ q⟩⟩
def lenF (d : D) (M : Mem) (Q : Nat → Prop) : Prop := match d with
  | .tup xs => Q xs.length
  | .fl xs => Q xs.length
  | .str z => z.length ≤ sizeLine ∧ Q z.length
  | .ref a => (∃ xs, M a = some (.lst xs) ∧ Q xs.length) ∨ ∃ kvs, M a = some (.dic kvs) ∧ Q kvs.length
  | _ => False
def nLen : WN := ⟨fun ds M Q => ∃ d, ds = [d] ∧ lenF d M fun n => Q (.int (n : Nat)) M, fun ds M Q Q' h ⟨d, e, q⟩ => ⟨d, e, by
  cases d <;> first
    | exact q.elim
    | exact h _ _ q
    | exact ⟨q.1, h _ _ q.2⟩
    | (rcases q with ⟨xs, e, q⟩ | ⟨xs, e, q⟩
       · exact .inl ⟨xs, e, h _ _ q⟩
       · exact .inr ⟨xs, e, h _ _ q⟩)⟩⟩
/-- what stands in a sequence -/
def itemsF (d : D) (M : Mem) (Q : List D → Prop) : Prop := match d with
  | .tup xs => Q xs
  | .fl xs => Q xs
  | .ref a => ∃ xs, M a = some (.lst xs) ∧ Q xs
  | _ => False
theorem itemsF_mono {d : D} {M : Mem} {Q Q' : List D → Prop} (h : ∀ xs, Q xs → Q' xs) (q : itemsF d M Q) : itemsF d M Q' := by
  cases d <;> first
    | exact q.elim
    | exact h _ q
    | (obtain ⟨xs, e, q⟩ := q; exact ⟨xs, e, h _ q⟩)
def nTuple : WN := ⟨fun ds M Q => ∃ d, ds = [d] ∧ itemsF d M fun xs => Q (.tup xs) M, fun ds M Q Q' h ⟨d, e, q⟩ => ⟨d, e, itemsF_mono (fun xs => h _ _) q⟩⟩
def nList : WN := ⟨fun ds M Q => ∃ d, ds = [d] ∧ itemsF d M fun xs => ∀ p, M p = none → Q (.ref p) (mupd M p (.lst xs)), fun ds M Q Q' h ⟨d, e, q⟩ => ⟨d, e, itemsF_mono (fun xs q p hp => h _ _ (q p hp)) q⟩⟩
/-- of a list of ints; of bools -/
def nInts (C : List Int → Prop) (g : List Int → D → Prop) : WN := ⟨fun ds M Q => ∃ a ns, ds = [.ref a] ∧ M a = some (.lst (ns.map D.int)) ∧ C ns ∧ ∀ d, g ns d → Q d M, fun ds M Q Q' h q => by
  obtain ⟨a, ns, e1, e2, e3, q⟩ := q
  exact ⟨a, ns, e1, e2, e3, fun d hd => h _ _ (q d hd)⟩⟩
abbrev nSum : WN := nInts (fun _ => True) fun ns d => d = .int ns.sum
def nBls (g : List Bool → Bool) : WN := ⟨fun ds M Q => ∃ a bs, ds = [.ref a] ∧ M a = some (.lst (bs.map D.bl)) ∧ Q (.bl (g bs)) M, fun ds M Q Q' h q => by
  obtain ⟨a, ns, e1, e2, q⟩ := q
  exact ⟨a, ns, e1, e2, h _ _ q⟩⟩
abbrev nAny : WN := nBls fun bs => bs.any id
abbrev nAll : WN := nBls fun bs => bs.all id
section
variable {K : PySem.W.Frag} {H : Hp}
theorem rel_ints : ∀ {ns : List Int} {vs : List V}, RelDs K H (ns.map D.int) vs → vs = ns.map V.int
  | [], _, .nil => rfl
  | n :: ns, _, .cons r t => by rw [rel_int r, rel_ints t]; rfl
theorem rel_bls : ∀ {ns : List Bool} {vs : List V}, RelDs K H (ns.map D.bl) vs → vs = ns.map V.bl
  | [], _, .nil => rfl
  | n :: ns, _, .cons r t => by rw [relD_bl r, rel_bls t]; rfl
end
section
variable {X : Cx}
theorem f_abs : DN X (.builtin "abs") nAbs := d_imp call_abs fun xs H Q ⟨ds, M, Q', rds, rm, ⟨i, e, q⟩, po⟩ => by
  subst e
  obtain ⟨v, rfl, rv⟩ := rel1 rds
  exact ⟨i, by rw [rel_int rv], po.here rm (.int _) q⟩
theorem f_max2 (hc : X.calm = true) : DN X (.builtin "max") nMax2 := d_imp (call_max2 hc) fun xs H Q ⟨ds, M, Q', rds, rm, ⟨i, j, e, q⟩, po⟩ => by
  subst e
  obtain ⟨v, u, rfl, rv, ru⟩ := rel2 rds
  exact ⟨i, j, by rw [rel_int rv, rel_int ru], po.here rm (.int _) q⟩
theorem f_min2 (hc : X.calm = true) : DN X (.builtin "min") nMin2 := d_imp (call_min2 hc) fun xs H Q ⟨ds, M, Q', rds, rm, ⟨i, j, e, q⟩, po⟩ => by
  subst e
  obtain ⟨v, u, rfl, rv, ru⟩ := rel2 rds
  exact ⟨i, j, by rw [rel_int rv, rel_int ru], po.here rm (.int _) q⟩
theorem f_int : DN X (.type "int") nInt := d_imp call_int1 fun xs H Q ⟨ds, M, Q', rds, rm, q, po⟩ => by
  unfold nInt at q
  simp only at q
  split at q
  · rename_i i
    obtain ⟨v, rfl, rv⟩ := rel1 rds
    exact .inl ⟨i, by rw [rel_int rv], po.here rm (.int _) q⟩
  · rename_i b
    obtain ⟨v, rfl, rv⟩ := rel1 rds
    exact .inr ⟨b, by rw [relD_bl rv], po.here rm (.int _) q⟩
  · exact q.elim
theorem f_strI : DN X (.type "str") nStrI := d_imp call_str_int fun xs H Q ⟨ds, M, Q', rds, rm, ⟨i, e, e2, q⟩, po⟩ => by
  subst e
  obtain ⟨v, rfl, rv⟩ := rel1 rds
  exact ⟨i, by rw [rel_int rv], e2, po.here rm (.str _) q⟩
theorem f_len : DN X (.builtin "len") nLen := ⟨fun pins s σ H xs us Q I rx ⟨ds, M, Q', rds, rm, ⟨d, e, q⟩, po⟩ => by
  subst e
  obtain ⟨v, rfl, rv⟩ := rel1 rds
  cases rv with
  | tup ht hr => exact call_len pins s σ H _ us Q I rx ⟨_, _, rfl, .inr ⟨_, ht.sq, rfl⟩, po.here rm (.int _) (by rw [← hr.length]; exact q)⟩
  | fl ht hr => exact call_len pins s σ H _ us Q I rx ⟨_, _, rfl, .inl ⟨_, ht.sq, rfl⟩, po.here rm (.int _) (by rw [← hr.length]; exact q)⟩
  | str z => exact call_len pins s σ H _ us Q I rx ⟨_, _, rfl, ⟨q.1, rfl⟩, po.here rm (.int _) q.2⟩
  | ref a =>
    rcases q with ⟨ys, h0, q⟩ | ⟨kvs, h0, q⟩
    · obtain ⟨vs, hH, hr⟩ := rm _ _ h0
      exact call_len pins s σ H _ us Q I rx ⟨_, _, rfl, .inl ⟨_, .inl (.inl hH), rfl⟩, po.here rm (.int _) (by rw [← hr.length]; exact q)⟩
    · rcases rm a _ h0 with ⟨L, e, q1, q2⟩ | ⟨L, vs, e, q1, q2, q3, q4, q5⟩
      · have hl : kvs.length = L.length := by have := congrArg List.length q1; rw [List.length_map, List.length_map] at this; exact this
        exact call_lenD pins s σ H _ us Q I rx ⟨_, _, rfl, e, po.here rm (.int _) (by rw [← hl]; exact q)⟩
      · have hl : kvs.length = L.length := by have := congrArg List.length q1; rw [List.length_map, List.length_map] at this; exact this
        obtain ⟨L', dd, en, hz, hd⟩ := dic_n I rm h0 q3.1
        have hl' : kvs.length = L'.length := by obtain ⟨_, e1, _⟩ := en; have := congrArg List.length e1; rw [List.length_map, List.length_map] at this; exact this
        obtain ⟨u, rfl, ru⟩ := vals1 rx
        cases ru
        refine call_len_dictH hd dd (by rw [sizeLine_eq] at hz; omega) ⟨.int ((L'.length : Nat) : Int), H, I.tok _, ⟨_, rfl⟩, po.here rm (.int _) (by rw [← hl']; exact q)⟩
  | _ => exact False.elim q⟩
theorem f_tuple : DN X (.type "tuple") nTuple := d_imp call_tuple_of fun xs H Q ⟨ds, M, Q', rds, rm, ⟨d, e, q⟩, po⟩ => by
  subst e
  obtain ⟨v, rfl, rv⟩ := rel1 rds
  cases rv with
  | tup ht hr => exact ⟨_, _, rfl, .inr ⟨ht.sq, po.here rm (.tup ht hr) q⟩⟩
  | fl ht hr => exact ⟨_, _, rfl, .inl ⟨ht.sq, fun p hp => po _ _ _ M (Step.beside hp) (rm.beside hp) (.tup (.inl upd_same) (hr.keep (keep_new hp))) q⟩⟩
  | ref a =>
    obtain ⟨ys, h0, q⟩ := q
    obtain ⟨vs, hH, hr⟩ := rm _ _ h0
    exact ⟨_, _, rfl, .inl ⟨.inl (.inl hH), fun p hp => po _ _ _ M (Step.beside hp) (rm.beside hp) (.tup (.inl upd_same) (hr.keep (keep_new hp))) q⟩⟩
  | _ => exact False.elim q
theorem f_list : DN X (.type "list") nList := d_imp call_list_of fun xs H Q ⟨ds, M, Q', rds, rm, ⟨d, e, q⟩, po⟩ => by
  subst e
  obtain ⟨v, rfl, rv⟩ := rel1 rds
  cases rv with
  | tup ht hr => exact ⟨_, _, rfl, .inr ht.sq, fun p hp => po _ _ _ _ (Step.new rm hp (.lst _)) (rm.laid hp (keep_new hp) ⟨_, upd_same, hr.keep (keep_new hp)⟩) (.ref p) (q p (rm.free hp))⟩
  | fl ht hr => exact ⟨_, _, rfl, .inl ht.sq, fun p hp => po _ _ _ _ (Step.new rm hp (.lst _)) (rm.laid hp (keep_new hp) ⟨_, upd_same, hr.keep (keep_new hp)⟩) (.ref p) (q p (rm.free hp))⟩
  | ref a =>
    obtain ⟨ys, h0, q⟩ := q
    obtain ⟨vs, hH, hr⟩ := rm _ _ h0
    exact ⟨_, _, rfl, .inl (.inl (.inl hH)), fun p hp => po _ _ _ _ (Step.new rm hp (.lst _)) (rm.laid hp (keep_new hp) ⟨_, upd_same, hr.keep (keep_new hp)⟩) (.ref p) (q p (rm.free hp))⟩
  | _ => exact False.elim q
theorem f_sum (hc : X.calm = true) : DN X (.builtin "sum") nSum := d_imp (cr_sum hc) fun xs H Q ⟨ds, M, Q', rds, rm, ⟨a, ns, e, h0, _, q⟩, po⟩ => by
  subst e
  obtain ⟨v, rfl, rv⟩ := rel1 rds
  obtain ⟨vs, hH, hr⟩ := rm _ _ h0
  rw [rel_ints hr] at hH
  exact ⟨a, ns, by rw [rel_ref rv], .inl (.inl hH), po.here rm (.int _) (q _ rfl)⟩
theorem f_any (hc : X.calm = true) : DN X (.builtin "any") nAny := d_imp (cr_any hc) fun xs H Q ⟨ds, M, Q', rds, rm, ⟨a, ns, e, h0, q⟩, po⟩ => by
  subst e
  obtain ⟨v, rfl, rv⟩ := rel1 rds
  obtain ⟨vs, hH, hr⟩ := rm _ _ h0
  rw [rel_bls hr] at hH
  exact ⟨a, ns, by rw [rel_ref rv], .inl (.inl hH), po.here rm (.bl _) q⟩
theorem f_all (hc : X.calm = true) : DN X (.builtin "all") nAll := d_imp (cr_all hc) fun xs H Q ⟨ds, M, Q', rds, rm, ⟨a, ns, e, h0, q⟩, po⟩ => by
  subst e
  obtain ⟨v, rfl, rv⟩ := rel1 rds
  obtain ⟨vs, hH, hr⟩ := rm _ _ h0
  rw [rel_bls hr] at hH
  exact ⟨a, ns, by rw [rel_ref rv], .inl (.inl hH), po.here rm (.bl _) q⟩
end
end MP

namespace MP
open PySem PySem.Spec PyProof.Rows L2

/-! ### a tuple times an int -/
theorem tuple_mulS (l : Addr) (items : Array Value) (n : Nat) (dd : Option Addr) (sl : Array (Option Value)) (x : Int) (u : Tok) (c0 : (decide (x < -(2 ^ 63)) || decide (x ≥ 2 ^ 63)) = false) (c1 : (items.isEmpty || x == 1) = true) :
    Meets (Builtin.«tuple.__mul__» ⟨[.ref l, .int x u], []⟩) (fun _ R s => s.heap.get? l = some { cls := .type "tuple", dict := dd, data := .seq items n, slots := sl } ∧ R (.ok (.ret (Value.ref l))) s) :=
  .of_wp fun prog w A R s h => by
    obtain ⟨hp, g, d, tk, os⟩ := s
    obtain ⟨hl, h⟩ := h
    have f1 := AutoSeq1.idx_int
    wp_walk using wpAny_loadPart' hl
    refine wpAny_ite_false (decide_eq_false (by rw [c0]; exact Bool.false_ne_true)) ?_
    wp_walk using wpAny_loadPart' hl
    exact ⟨_, rfl, h⟩
theorem tuple_mul0 (l : Addr) (items : Array Value) (n : Nat) (dd : Option Addr) (sl : Array (Option Value)) (x : Int) (u : Tok) (c0 : (decide (x < -(2 ^ 63)) || decide (x ≥ 2 ^ 63)) = false) (c1 : (items.isEmpty || x == 1) = false) (c2 : x ≤ 0) :
    Meets (Builtin.«tuple.__mul__» ⟨[.ref l, .int x u], []⟩) (fun _ R s => s.heap.get? l = some { cls := .type "tuple", dict := dd, data := .seq items n, slots := sl } ∧
      R (.ok (.ret (Value.ref s.heap.objs.size))) { s with heap := s.heap.push { cls := Value.type "tuple", data := Data.seq #[] }, toks := s.toks }) :=
  .of_wp fun prog w A R s h => by
    obtain ⟨hp, g, d, tk, os⟩ := s
    obtain ⟨hl, h⟩ := h
    have f1 := AutoSeq1.idx_int
    have c3 : (decide (x ≤ 0) || items.isEmpty) = true := by rw [decide_eq_true c2]; rfl
    wp_walk using wpAny_loadPart' hl
    refine wpAny_ite_false (decide_eq_false (by rw [c0]; exact Bool.false_ne_true)) ?_
    wp_walk using wpAny_loadPart' hl
    exact ⟨_, rfl, h⟩
/-- * of ints; a list, a tuple times an int -/
def rMulA : W2 := ⟨fun d e M Q => match d, e with
    | .int i, .int j => CMul i j ∧ Q (.int (i * j)) M
    | .ref a, .int k => ∃ xs, M a = some (.lst xs) ∧ -(2 ^ 63) ≤ k ∧ k < 2 ^ 63 ∧ xs.length * k.toNat ≤ sizeLine ∧ ∀ p, M p = none → Q (.ref p) (mupd M p (.lst (List.replicate k.toNat xs).flatten))
    | .tup xs, .int k => -(2 ^ 63) ≤ k ∧ k ≤ 1000 ∧ xs.length ≤ 1000 ∧ Q (.tup (List.replicate k.toNat xs).flatten) M
    | _, _ => False, fun d e M Q Q' h q => by
  cases d <;> cases e <;> first | exact q.elim | exact ⟨q.1, h _ _ q.2⟩ | exact ⟨q.1, q.2.1, q.2.2.1, h _ _ q.2.2.2⟩ | (obtain ⟨xs, q1, q2, q3, q4, q5⟩ := q; exact ⟨xs, q1, q2, q3, q4, fun p hp => h _ _ (q5 p hp)⟩)⟩
section
variable {X : Cx}
theorem d_mulA : D2 X (binaryOp .Mult) rMulA := ⟨by
  intro pins s σ H x y v u Q I rx ry ⟨d, e, M, Q', rd, re, rm, q, po⟩
  have m1 : ∀ d e, rMul.f d e M Q' → RelD X.K H d x → RelD X.K H e y → wpAny (model X.prog X.w) X.A (binaryOp .Mult v u) (EP X pins σ Q) X.xe s := fun d e q rd re => d_mul.op pins s σ H x y v u Q I rx ry ⟨d, e, M, Q', rd, re, rm, q, po⟩
  cases d <;> cases e <;> first
    | exact False.elim q
    | exact m1 (.int _) (.int _) q rd re
    | exact m1 (.ref _) (.int _) q rd re
    | skip
  rename_i ds k
  obtain ⟨h1, h2, h3, q⟩ := q
  cases rd with
  | tup ht hr =>
    rename_i a xs
    cases re
    have hl := hr.length
    by_cases hk2 : xs ≠ [] ∧ 2 ≤ k
    · exact op_repT pins s σ H _ _ v u Q I rx ry ⟨a, k, xs, rfl, rfl, ht.sq, hk2.1, hk2.2, h2, by omega, fun p hp => po _ _ _ M (Step.beside hp) (rm.beside hp) (.tup (.inl upd_same) ((hr.rep _).keep (keep_new hp))) q⟩
    · cases rx
      obtain ⟨t, rfl⟩ := ry
      obtain ⟨its, r, ⟨⟨cls, dd, data, sl⟩, ho, hc, n, hd⟩, hs⟩ := I.tuple ht.sq
      simp only at hc hd
      subst hc hd
      have c0 : (decide (k < -(2 ^ 63)) || decide (k ≥ 2 ^ 63)) = false := by
        rw [decide_eq_false (by omega), decide_eq_false (by omega)] <;> rfl
      have hle : its.length = xs.length := r.length.symm
      have he : its.toArray.isEmpty = true ↔ xs = [] := by
        rw [Array.isEmpty_iff_size_eq_zero, List.size_toArray, hle]
        exact List.length_eq_zero_iff
      by_cases c1 : (its.toArray.isEmpty || k == 1) = true
      · have e2 : (List.replicate k.toNat ds).flatten = ds := by
          rw [Bool.or_eq_true, he] at c1
          rcases c1 with c1 | c1
          · rw [hr.nil_iff.mp c1]; induction k.toNat with
            | zero => rfl
            | succ m ih => rw [List.replicate_succ, List.flatten_cons, ih]; rfl
          · have e3 : k = 1 := by simpa using c1
            subst e3
            simp
        rw [e2] at q
        exact wpAny_binaryOp_repeat_ref (T := "tuple") (U := "int") (by decide) ⟨_, ho, rfl⟩ (fun s' => typeIs_int s' k t) noFill_tuple_mul F.fills_int_mul F.slot_int_rmul repeat_tuple F.slot_int_index.lookup
          (call_meets F.slot_int_rmul (typeIs_int s k t) F.entry_int_rmul (F.args_int_rmul_2 _ _) (int_rmul_tuple k t a its.toArray n dd sl)
            ⟨ho, rfl, ⟨_, ho, rfl⟩, call_meets F.slot_tuple_mul ⟨_, ho, rfl⟩ F.entry_tuple_mul (F.args_tuple_mul_2 _ _) (tuple_mulS a its.toArray n dd sl k t c0 c1) ⟨ho, .ref a, H, I, rfl, po.here rm (.tup ht hr) q⟩⟩)
      · have c1' : (its.toArray.isEmpty || k == 1) = false := Bool.eq_false_iff.mpr c1
        have hk0 : k ≤ 0 := by
          rw [Bool.or_eq_false_iff] at c1'
          have n1 : xs ≠ [] := fun z => by rw [he.mpr z] at c1'; exact absurd c1'.1 (by decide)
          have n2 : k ≠ 1 := by simpa using c1'.2
          have : ¬ 2 ≤ k := fun z => hk2 ⟨n1, z⟩
          omega
        have e2 : (List.replicate k.toNat ds).flatten = [] := by
          rw [Int.toNat_of_nonpos hk0]; rfl
        rw [e2] at q
        exact wpAny_binaryOp_repeat_ref (T := "tuple") (U := "int") (by decide) ⟨_, ho, rfl⟩ (fun s' => typeIs_int s' k t) noFill_tuple_mul F.fills_int_mul F.slot_int_rmul repeat_tuple F.slot_int_index.lookup
          (call_meets F.slot_int_rmul (typeIs_int s k t) F.entry_int_rmul (F.args_int_rmul_2 _ _) (int_rmul_tuple k t a its.toArray n dd sl)
            ⟨ho, rfl, ⟨_, ho, rfl⟩, call_meets F.slot_tuple_mul ⟨_, ho, rfl⟩ F.entry_tuple_mul (F.args_tuple_mul_2 _ _) (tuple_mul0 a its.toArray n dd sl k t c0 c1' hk0)
              ⟨ho, .ref s.heap.objs.size, _, I.laid (t' := s.toks) (o := .tup []) (fun b ob z => Heap.get?_push_of_some _ z) (Nat.le_refl _) ⟨Nat.zero_le _, [], .nil, IsTup.new _ _⟩, rfl,
                po _ (.tup []) _ M (Step.beside (I.hok.fresh (Nat.le_refl _))) (rm.beside (I.hok.fresh (Nat.le_refl _))) (.tup (.inl upd_same) .nil) q⟩⟩)⟩

/-! ### x in c -/
def rInn (n : Bool) : W2 := ⟨fun d e M Q => match e with
    | .tup xs => D.pls xs ∧ d.pl ∧ min (D.deps xs) d.dep ≤ 60 ∧ Q (.bl (xor n (xs.any fun x => eqD x d))) M
    | .fl xs => D.pls xs ∧ d.pl ∧ min (D.deps xs) d.dep ≤ 60 ∧ Q (.bl (xor n (xs.any fun x => eqD x d))) M
    | .str z => ∃ i, d = .str i ∧ Q (.bl (xor n (!(Builtin.Str.occurrences z i 0 z.length 1).isEmpty))) M
    | .ref a => (∃ xs, M a = some (.lst xs) ∧ D.pls xs ∧ d.pl ∧ min (D.deps xs) d.dep ≤ 60 ∧ Q (.bl (xor n (xs.any fun x => eqD x d))) M) ∨
        ∃ kvs, M a = some (.dic kvs) ∧ keyOk kvs d ∧ Q (.bl (xor n (dgetD kvs d).isSome)) M
    | _ => False, fun d e M Q Q' h q => by
  cases e <;> first
    | exact q.elim
    | (obtain ⟨q1, q2, q3, q4⟩ := q; exact ⟨q1, q2, q3, h _ _ q4⟩)
    | (obtain ⟨i, q1, q4⟩ := q; exact ⟨i, q1, h _ _ q4⟩)
    | (rcases q with ⟨xs, q0, q1, q2, q3, q4⟩ | ⟨kvs, q1, q2, q3⟩
       · exact .inl ⟨xs, q0, q1, q2, q3, h _ _ q4⟩
       · exact .inr ⟨kvs, q1, q2, h _ _ q3⟩)⟩
abbrev rIn : W2 := rInn false
abbrev rNotIn : W2 := rInn true
theorem any_py (d : D) : ∀ xs : List D, ((D.pys xs).any fun y => PyData.eqv y d.py) = xs.any fun x => eqD x d := fun xs => by
  rw [pys_map, List.any_map]; rfl
theorem d_in (hu : X.A.units + 64 < cLine) : D2 X (compareOp .In) rIn := ⟨by
  intro pins s σ H x y v u Q I rx ry ⟨d, e, M, Q', rd, re, rm, q, po⟩
  cases re with
  | @tup a xs vs ht hr =>
    obtain ⟨p1, p2, hz, q⟩ := q
    obtain ⟨bs, g2⟩ := Inv.rd I rd p2 rx
    obtain ⟨as, g1⟩ := Inv.rd I (d := .tup xs) (.tup ht hr) (by rw [D.pl, D.py, PyData.plain]; exact p1) ry
    rw [D.py] at g1
    exact PySem.SeqAt.in_tuple_data g1 g2 p1 p2 (by have : min (PyData.depthAll (D.pys xs)) d.py.depth ≤ 60 := hz; omega) (fin_b I rm po q (by rw [xor_f, any_py]))
  | @fl a xs vs ht hr =>
    obtain ⟨p1, p2, hz, q⟩ := q
    obtain ⟨bs, g2⟩ := Inv.rd I rd p2 rx
    obtain ⟨as, g1⟩ := Inv.rd I (d := .fl xs) (.fl ht hr) (by rw [D.pl, D.py, PyData.plain]; exact p1) ry
    rw [D.py] at g1
    exact PySem.SeqAt.in_list_data g1 g2 p1 p2 (by have : min (PyData.depthAll (D.pys xs)) d.py.depth ≤ 60 := hz; omega) (fin_b I rm po q (by rw [xor_f, any_py]))
  | str z =>
    obtain ⟨i, rfl, q⟩ := q
    exact op_in_str pins s σ H _ _ v u Q I rx ry ⟨i, z, rel_str rd, rfl, po.here rm (.bl _) (by rw [xor_f] at q; exact q)⟩
  | ref a =>
    rcases q with ⟨xs, h0, p1, p2, hz, q⟩ | ⟨kvs, h0, ko, q⟩
    · obtain ⟨vs, hH, hr⟩ := rm _ _ h0
      obtain ⟨bs, g2⟩ := Inv.rd I rd p2 rx
      obtain ⟨as, g1⟩ := Inv.rdl I hH hr p1
      cases ry
      exact PySem.SeqAt.in_list_data g1 g2 p1 p2 (by have : min (PyData.depthAll (D.pys xs)) d.py.depth ≤ 60 := hz; omega) (fin_b I rm po q (by rw [xor_f, any_py]))
    · cases ry
      exact dic_in hu I rm h0 ko rd rx fun s' I' => ⟨.bl _, H, I', rfl, po.here rm (.bl _) (by rw [xor_f] at q; exact q)⟩
  | _ => exact False.elim q⟩
theorem d_notIn (hu : X.A.units + 64 < cLine) : D2 X (compareOp .NotIn) rNotIn := ⟨by
  intro pins s σ H x y v u Q I rx ry ⟨d, e, M, Q', rd, re, rm, q, po⟩
  cases re with
  | @tup a xs vs ht hr =>
    obtain ⟨p1, p2, hz, q⟩ := q
    obtain ⟨bs, g2⟩ := Inv.rd I rd p2 rx
    obtain ⟨as, g1⟩ := Inv.rd I (d := .tup xs) (.tup ht hr) (by rw [D.pl, D.py, PyData.plain]; exact p1) ry
    rw [D.py] at g1
    exact PySem.SeqAt.notIn_tuple_data g1 g2 p1 p2 (by have : min (PyData.depthAll (D.pys xs)) d.py.depth ≤ 60 := hz; omega) (fin_b I rm po q (by rw [xor_t, any_py]))
  | @fl a xs vs ht hr =>
    obtain ⟨p1, p2, hz, q⟩ := q
    obtain ⟨bs, g2⟩ := Inv.rd I rd p2 rx
    obtain ⟨as, g1⟩ := Inv.rd I (d := .fl xs) (.fl ht hr) (by rw [D.pl, D.py, PyData.plain]; exact p1) ry
    rw [D.py] at g1
    exact PySem.SeqAt.notIn_list_data g1 g2 p1 p2 (by have : min (PyData.depthAll (D.pys xs)) d.py.depth ≤ 60 := hz; omega) (fin_b I rm po q (by rw [xor_t, any_py]))
  | str z =>
    obtain ⟨i, rfl, q⟩ := q
    exact op_notIn_str pins s σ H _ _ v u Q I rx ry ⟨i, z, rel_str rd, rfl, po.here rm (.bl _) (by rw [xor_t] at q; exact q)⟩
  | ref a =>
    rcases q with ⟨xs, h0, p1, p2, hz, q⟩ | ⟨kvs, h0, ko, q⟩
    · obtain ⟨vs, hH, hr⟩ := rm _ _ h0
      obtain ⟨bs, g2⟩ := Inv.rd I rd p2 rx
      obtain ⟨as, g1⟩ := Inv.rdl I hH hr p1
      cases ry
      exact PySem.SeqAt.notIn_list_data g1 g2 p1 p2 (by have : min (PyData.depthAll (D.pys xs)) d.py.depth ≤ 60 := hz; omega) (fin_b I rm po q (by rw [xor_t, any_py]))
    · cases ry
      exact dic_notIn hu I rm h0 ko rd rx fun s' I' => ⟨.bl _, H, I', rfl, po.here rm (.bl _) (by rw [xor_t] at q; exact q)⟩
  | _ => exact False.elim q⟩
end

/-! ### isinstance(x, T) -/
def tyName (d : D) (M : Mem) : Option String := match d with
  | .non => some "NoneType"
  | .bl _ => some "bool"
  | .int _ => some "int"
  | .str _ => some "str"
  | .tup _ => some "tuple"
  | .fl _ => some "list"
  | .ref a => match M a with
    | some (.lst _) => some "list"
    | some (.dic _) => some "dict"
    | _ => none
  | .ty _ => none
/-- is a T an U: the answer of the written table -/
def kitB2 (t u : String) : Option Bool := if t = u then some true else
  if u = "int" ∧ t = "bool" then some true else
  if (t = "NoneType" ∨ t = "bool" ∨ t = "int" ∨ t = "str" ∨ t = "tuple" ∨ t = "list" ∨ t = "dict") ∧ (u = "bool" ∨ u = "int" ∨ u = "str" ∨ u = "tuple" ∨ u = "list" ∨ u = "dict") then some false else none
theorem kitB2_ok (K : PySem.W.Frag) {t u : String} {b : Bool} (h : kitB2 t u = some b) : PySem.W.kitOne K (.type t) (.type u) = some b := by
  unfold kitB2 at h
  split at h
  · rename_i e; subst e; cases h; unfold PySem.W.kitOne; rw [if_pos (by simp)]
  · split at h
    · rename_i e1 e2
      obtain ⟨rfl, rfl⟩ := e2
      cases h
      exact kit_ty (by decide +kernel)
    · split at h
      · rename_i e1 e2 e3
        cases h
        obtain ⟨h1, h2⟩ := e3
        rcases h1 with rfl | rfl | rfl | rfl | rfl | rfl | rfl <;> rcases h2 with rfl | rfl | rfl | rfl | rfl | rfl <;> first | exact absurd rfl e1 | exact absurd ⟨rfl, rfl⟩ e2 | exact kit_ty (by decide +kernel)
      · cases h
def nIsi : WN := ⟨fun ds M Q => ∃ d u t b, ds = [d, .ty u] ∧ tyName d M = some t ∧ kitB2 t u = some b ∧ Q (.bl b) M, fun _ _ _ _ h ⟨d, u, t, b, e1, e2, e3, q⟩ => ⟨d, u, t, b, e1, e2, e3, h _ _ q⟩⟩
section
variable {X : Cx}
theorem tyName_ok {H : Hp} {M : Mem} {d : D} {x : V} {t : String} (rm : RelM X.prog X.w X.K H M) (rd : RelD X.K H d x) (h : tyName d M = some t) : (TyX X.K H x (.type t)) ∨ ∃ a kvs, x = .ref a ∧ M a = some (.dic kvs) ∧ t = "dict" := by
  cases rd with
  | non => cases h; exact .inl (.base .non)
  | bl b => cases h; exact .inl (.base (.bl b))
  | int i => cases h; exact .inl (.base (.int i))
  | str z => cases h; exact .inl (.base (.str z))
  | tup ht hr =>
    cases h
    rcases ht with ht | ⟨o, its, n, hk, hc, _⟩
    · exact .inl (.base (.tup ht))
    · exact .inl (.kTuple hk hc)
  | fl ht hr =>
    cases h
    rcases ht with ⟨o, ht⟩ | ⟨o, its, n, hk, hc, _⟩
    · exact .inl (.base (.frz ht))
    · exact .inl (.kList hk hc)
  | ref a =>
    simp only [tyName] at h
    split at h
    · rename_i xs e; cases h
      obtain ⟨vs, hH, _⟩ := rm _ _ e
      exact .inl (.base (.lst hH))
    · rename_i kvs e; cases h
      exact .inr ⟨a, kvs, rfl, e, rfl⟩
    · cases h
  | ty n => cases h
theorem f_isi : DN X (.builtin "isinstance") nIsi := ⟨fun pins s σ H xs us Q I rx ⟨ds, M, Q', rds, rm, ⟨d, u, t, b, e, e1, e2, q⟩, po⟩ => by
  subst e
  obtain ⟨x, y, rfl, rd, re⟩ := rel2 rds
  cases re
  rcases tyName_ok rm rd e1 with ty | ⟨a, kvs, rfl, h0, rfl⟩
  · exact call_isi pins s σ H _ us Q I rx ⟨x, .ty u, .type t, .type u, b, rfl, .ty u, ty, kitB2_ok X.K e2, po.here rm (.bl _) q⟩
  · obtain ⟨u1, u2, rfl, r1, r2⟩ := vals2 rx
    cases r1
    cases r2
    exact PySem.W.kia_one PySem.W.kitx_dict I.kIn (dic_typeIs I rm h0) (kitB2_ok X.K e2) (fun z => nomatch z) fun tk => ⟨.bl b, H, I.tok tk, rfl, po.here rm (.bl _) q⟩⟩
end

/-! ### sorted, max, min of data -/
def sortD (xs : List D) : List D := xs.mergeSort (PySem.W.dataLe false D.py)
def nSorted : WN := ⟨fun ds M Q => ∃ a xs, ds = [.ref a] ∧ M a = some (.lst xs) ∧ PySem.W.AllAlike (xs.map D.py) ∧ PySem.W.Sortable (xs.map D.py) ∧ (∀ x ∈ xs, x.pl ∧ x.dep ≤ 60) ∧ ∀ p, M p = none → Q (.ref p) (mupd M p (.lst (sortD xs))),
  fun _ _ _ _ h ⟨a, xs, e1, e2, e3, e4, e5, q⟩ => ⟨a, xs, e1, e2, e3, e4, e5, fun p hp => h _ _ (q p hp)⟩⟩
theorem each_rel {K : PySem.W.Frag} {H : Hp} : ∀ {ds : List D} {vs : List V} {us : List Value}, RelDs K H ds vs → Vals vs us → PySem.W.EachIs (fun u d => ∃ v, RelD K H d v ∧ RelV v u) us ds
  | _, _, _, .nil, .nil => .nil
  | _, _, _, .cons r t, .cons q u => .cons ⟨_, r, q⟩ (each_rel t u)
theorem rel_each {K : PySem.W.Frag} {H : Hp} : ∀ {ds : List D} {us : List Value}, PySem.W.EachIs (fun u d => ∃ v, RelD K H d v ∧ RelV v u) us ds → ∃ vs, RelDs K H ds vs ∧ Vals vs us
  | [], _, .nil => ⟨[], .nil, .nil⟩
  | _ :: _, _, .cons ⟨v, r, q⟩ t => let ⟨vs, a, b⟩ := rel_each t; ⟨v :: vs, .cons r a, .cons q b⟩
theorem each_reads {X : Cx} {pins : List (Addr × Obj)} {σ : L2.St} {H : Hp} {s : Shared} (I : Inv X pins σ H s) : ∀ {ds : List D} {vs : List V} {us : List Value}, RelDs X.K H ds vs → Vals vs us → (∀ d ∈ ds, d.pl) → PySem.W.EachIs (fun u d => ∃ as, Reads s.heap u (D.py d) as) us ds
  | _, _, _, .nil, .nil, _ => .nil
  | _, _, _, .cons r t, .cons q u, h => .cons (Inv.rd I r (h _ List.mem_cons_self) q) (each_reads I t u fun d hd => h d (List.mem_cons_of_mem _ hd))
section
variable {X : Cx}
theorem f_sorted (hu : X.A.units + 64 < cLine) : DN X (.builtin "sorted") nSorted := ⟨fun pins s σ H xs us Q I rx ⟨ds, M, Q', rds, rm, ⟨a, ys, e, h0, al, so, hp, q⟩, po⟩ => by
  subst e
  obtain ⟨x, rfl, rd⟩ := rel1 rds
  rw [rel_ref rd] at rx
  obtain ⟨u, rfl, ru⟩ := vals1 rx
  cases ru
  obtain ⟨vs, hH, hr⟩ := rm _ _ h0
  obtain ⟨its, rits, hl, hz⟩ := I.list (.inl (.inl hH))
  have hz' : ys.length ≤ sizeLine := by rw [hr.length]; exact hz
  refine PySem.W.sorted_data (s := s) (vs := its) (bs := ys) (enc := D.py) (R := fun u d => ∃ v, RelD X.K H d v ∧ RelV v u) hl.isList (each_rel hr rits) (each_reads I hr rits fun d hd => (hp d hd).1) al so hz' (fun b hb => by have : b.py.depth ≤ 60 := (hp b hb).2; omega) fun out ho eo => ?_
  obtain ⟨ws, r1, r2⟩ := rel_each eo
  obtain ⟨ep, he'⟩ := PyProof.Rows.sortedAll_at s.heap its out.toArray
  have hn : H (s.heap.objs.size + 1) = none := I.hok.fresh (Nat.le_succ _)
  have hlen : ws.length ≤ sizeLine := by rw [r2.length, ho]; exact hz'
  exact ⟨.ref _, _, I.laid (t' := s.toks) (o := .lst ws) (fun _ _ => PyProof.Rows.sortedAll_old) (Nat.le_succ _) ⟨hlen, out, ep, r2, he'⟩, rfl,
    po _ (.ref _) _ _ (Step.new rm hn (.lst (sortD ys))) (rm.laid hn (keep_new hn) ⟨ws, upd_same, r1.keep (keep_new hn)⟩) (.ref _) (q _ (rm.free hn))⟩⟩
end
/-- the first of the greatest, of the least -/
def maxDD (x : D) (xs : List D) : D := xs.foldl (fun a y => if ltD a y then y else a) x
def minDD (x : D) (xs : List D) : D := xs.foldl (fun a y => if ltD y a then y else a) x
theorem maxDD_py (x : D) : ∀ xs : List D, (maxDD x xs).py = PySem.W.maxD x.py (D.pys xs) := fun xs => by
  unfold maxDD PySem.W.maxD
  induction xs generalizing x with
  | nil => rfl
  | cons y ys ih =>
    rw [D.pys, List.foldl_cons, List.foldl_cons, ih]
    congr 1
    show D.py (if ltD x y = true then y else x) = if ltD x y = true then y.py else x.py
    split <;> rfl
theorem minDD_py (x : D) : ∀ xs : List D, (minDD x xs).py = PySem.W.minD x.py (D.pys xs) := fun xs => by
  unfold minDD PySem.W.minD
  induction xs generalizing x with
  | nil => rfl
  | cons y ys ih =>
    rw [D.pys, List.foldl_cons, List.foldl_cons, ih]
    congr 1
    show D.py (if ltD y x = true then y else x) = if ltD y x = true then y.py else x.py
    split <;> rfl
mutual
theorem py_inj : ∀ (d e : D), d.pl → e.pl → d.py = e.py → d = e
  | .non, e, _, p, h => by cases e <;> simp [D.py] at h <;> first | rfl | simp [D.pl, D.py, PyData.plain] at p
  | .bl b, e, _, p, h => by cases e <;> simp [D.py] at h <;> first | (subst h; rfl) | simp [D.pl, D.py, PyData.plain] at p
  | .int i, e, _, p, h => by cases e <;> simp [D.py] at h <;> first | (subst h; rfl) | simp [D.pl, D.py, PyData.plain] at p
  | .str x, e, _, p, h => by cases e <;> simp [D.py] at h <;> first | (subst h; rfl) | simp [D.pl, D.py, PyData.plain] at p
  | .tup xs, e, q, p, h => by
    cases e <;> simp [D.py] at h
    rw [pys_inj xs _ (by simpa [D.pl, D.py, PyData.plain] using q) (by simpa [D.pl, D.py, PyData.plain] using p) h]
  | .fl xs, e, q, p, h => by
    cases e <;> simp [D.py] at h
    rw [pys_inj xs _ (by simpa [D.pl, D.py, PyData.plain] using q) (by simpa [D.pl, D.py, PyData.plain] using p) h]
  | .ref _, _, q, _, _ => by simp [D.pl, D.py, PyData.plain] at q
  | .ty _, _, q, _, _ => by simp [D.pl, D.py, PyData.plain] at q
theorem pys_inj : ∀ (ds es : List D), D.pls ds → D.pls es → D.pys ds = D.pys es → ds = es
  | [], [], _, _, _ => rfl
  | [], _ :: _, _, _, h => by simp [D.pys] at h
  | _ :: _, [], _, _, h => by simp [D.pys] at h
  | d :: ds, e :: es, p, q, h => by
    simp only [D.pys, List.cons.injEq] at h
    simp only [D.pls, D.pys, PyData.plainAll, Bool.and_eq_true] at p q
    rw [py_inj d e p.1 q.1 h.1, pys_inj ds es p.2 q.2 h.2]
end
theorem mem_fold {f : D → D → D} (hf : ∀ a y, f a y = a ∨ f a y = y) : ∀ (xs : List D) (x : D), xs.foldl f x ∈ x :: xs
  | [], x => List.mem_cons_self
  | y :: ys, x => by
    rw [List.foldl_cons]
    rcases List.mem_cons.mp (mem_fold hf ys (f x y)) with e | e
    · rcases hf x y with h | h
      · rw [e, h]; exact List.mem_cons_self
      · rw [e, h]; exact List.mem_cons_of_mem _ List.mem_cons_self
    · exact List.mem_cons_of_mem _ (List.mem_cons_of_mem _ e)
theorem pls_mem {ds : List D} (p : D.pls ds) : ∀ d ∈ ds, d.pl := by
  induction ds with
  | nil => intro d hd; cases hd
  | cons e es ih =>
    simp only [D.pls, D.pys, PyData.plainAll, Bool.and_eq_true] at p
    intro d hd
    rcases List.mem_cons.mp hd with rfl | hd
    · exact p.1
    · exact ih p.2 d hd
def nBest (g : D → List D → D) : WN := ⟨fun ds M Q => ∃ d, ds = [d] ∧ itemsF d M fun xs => ∃ y ys, xs = y :: ys ∧ D.pls xs ∧ PySem.W.AlikeAll (D.pys xs) ∧ D.deps xs ≤ 60 ∧ Q (g y ys) M,
  fun ds M Q Q' h ⟨d, e, q⟩ => ⟨d, e, itemsF_mono (fun xs ⟨y, ys, e1, e2, e3, e4, q⟩ => ⟨y, ys, e1, e2, e3, e4, h _ _ q⟩) q⟩⟩
abbrev nMax : WN := nBest maxDD
abbrev nMin : WN := nBest minDD
/-- max(xs, default=d): the keyword's value stands last -/
def nBestD (g : D → List D → D) : WN := ⟨fun ds M Q => ∃ d e, ds = [d, e] ∧ itemsF d M fun xs => D.pls xs ∧ PySem.W.AlikeAll (D.pys xs) ∧ D.deps xs ≤ 60 ∧ Q (match xs with | [] => e | y :: ys => g y ys) M,
  fun ds M Q Q' h ⟨d, e, e0, q⟩ => ⟨d, e, e0, itemsF_mono (fun xs ⟨e2, e3, e4, q⟩ => ⟨e2, e3, e4, h _ _ q⟩) q⟩⟩
section
variable {X : Cx} {pins : List (Addr × Obj)} {σ : L2.St} {H : Hp} {s : Shared} {M : Mem}
/-- the walked list or tuple behind the items -/
theorem items_at (I : Inv X pins σ H s) (rm : RelM X.prog X.w X.K H M) {d : D} {x : V} {Q : List D → Prop} (rd : RelD X.K H d x) (q : itemsF d M Q) :
    ∃ a xs vs its, x = .ref a ∧ Q xs ∧ RelDs X.K H xs vs ∧ Vals vs its ∧ (s.heap.IsList a its.toArray ∨ s.heap.IsTuple a its.toArray) := by
  cases rd with
  | @tup a xs vs ht hr =>
    obtain ⟨its, r, hl, _⟩ := I.tuple ht.sq
    exact ⟨a, xs, vs, its, rfl, q, hr, r, .inr hl⟩
  | @fl a xs vs ht hr =>
    obtain ⟨its, r, hl, _⟩ := I.list ht.sq
    exact ⟨a, xs, vs, its, rfl, q, hr, r, .inl hl.isList⟩
  | ref a =>
    obtain ⟨xs, h0, q⟩ := q
    obtain ⟨vs, hH, hr⟩ := rm _ _ h0
    obtain ⟨its, r, hl, _⟩ := I.list (.inl (.inl hH))
    exact ⟨a, xs, vs, its, rfl, q, hr, r, .inl hl.isList⟩
  | _ => exact False.elim q
theorem best_at (I : Inv X pins σ H s) {xs : List D} {vs : List V} {its : List Value} (p : D.pls xs) (hr : RelDs X.K H xs vs) (r : Vals vs its) {i : Nat} {v : Value} {z : D} {h' : Heap} {bs : List Addr} (hv : its.toArray[i]? = some v) (hz : z ∈ xs) (rd : Reads h' v z.py bs)
    (hk : ∀ b o, s.heap.get? b = some o → h'.get? b = some o) : ∃ w, RelD X.K H z w ∧ RelV w v := by
  have hv2 : its[i]? = some v := by simpa using hv
  have hi : i < its.length := (List.getElem?_eq_some_iff.mp hv2).1
  have hvl := r.length
  obtain ⟨w, hw⟩ : ∃ w, vs[i]? = some w := ⟨_, List.getElem?_eq_getElem (by omega)⟩
  obtain ⟨u, hu1, hu2⟩ := r.get hw
  rw [hv2] at hu1; cases hu1
  obtain ⟨d, hd, rdw⟩ := hr.getV hw
  have hdm : d ∈ xs := List.mem_of_getElem? hd
  have pd := pls_mem p d hdm
  obtain ⟨as, g⟩ := Inv.rd I rdw pd hu2
  have g' := PyProof.Rows.Reads.keeps hk g
  have e1 := PySem.SeqAt.readOf_plain pd g'
  have e2 := PySem.SeqAt.readOf_plain (pls_mem p z hz) rd
  have e3 : d = z := py_inj d z pd (pls_mem p z hz) (by rw [← e1, ← e2])
  subst e3
  exact ⟨w, rdw, hu2⟩
theorem ite_or {a b : D} {c : Prop} [Decidable c] : (if c then b else a) = a ∨ (if c then b else a) = b := by split; exact .inr rfl; exact .inl rfl
theorem f_max (hc : X.calm = true) (hu : X.A.units + 64 < cLine) : DN X (.builtin "max") nMax := ⟨fun pins s σ H xs us Q I rx ⟨ds, M, Q', rds, rm, ⟨d, e, q⟩, po⟩ => by
  subst e
  obtain ⟨x, rfl, rd⟩ := rel1 rds
  obtain ⟨a, zs, vs, its, rfl, ⟨y, ys, rfl, p, al, hz, q⟩, hr, r, hl⟩ := items_at I rm rd q
  obtain ⟨u, rfl, ru⟩ := vals1 rx
  cases ru
  obtain ⟨as, g⟩ := Inv.rds I hr p r
  have hz' : PyData.depthAll (D.pys (y :: ys)) ≤ 60 := hz
  have fin : ∀ (i : Nat) (v : Value) (h' : Heap) (tk : Nat) (bs : List Addr), its.toArray[i]? = some v → Reads h' v (PySem.W.maxD y.py (D.pys ys)) bs → (∀ b o, s.heap.get? b = some o → h'.get? b = some o) → EP X pins σ Q v { s with heap := h', toks := tk } := fun i v h' tk bs hv rr hk => by
    rw [← maxDD_py] at rr
    obtain ⟨w, w1, w2⟩ := best_at I p hr r hv (mem_fold (fun a y => ite_or) ys y) rr hk
    exact ⟨w, H, I.kept hk, w2, po.here rm w1 q⟩
  rcases hl with hl | hl
  · exact PySem.W.max_list_data (x := y.py) (xs := D.pys ys) (I.ok.hd hc) hl g al (by have : PyData.depthAll (y.py :: D.pys ys) ≤ 60 := hz; omega) fin
  · exact PySem.W.max_tuple_data (x := y.py) (xs := D.pys ys) (I.ok.hd hc) hl g al (by have : PyData.depthAll (y.py :: D.pys ys) ≤ 60 := hz; omega) fin⟩
theorem f_min (hc : X.calm = true) (hu : X.A.units + 64 < cLine) : DN X (.builtin "min") nMin := ⟨fun pins s σ H xs us Q I rx ⟨ds, M, Q', rds, rm, ⟨d, e, q⟩, po⟩ => by
  subst e
  obtain ⟨x, rfl, rd⟩ := rel1 rds
  obtain ⟨a, zs, vs, its, rfl, ⟨y, ys, rfl, p, al, hz, q⟩, hr, r, hl⟩ := items_at I rm rd q
  obtain ⟨u, rfl, ru⟩ := vals1 rx
  cases ru
  obtain ⟨as, g⟩ := Inv.rds I hr p r
  have fin : ∀ (i : Nat) (v : Value) (h' : Heap) (tk : Nat) (bs : List Addr), its.toArray[i]? = some v → Reads h' v (PySem.W.minD y.py (D.pys ys)) bs → (∀ b o, s.heap.get? b = some o → h'.get? b = some o) → EP X pins σ Q v { s with heap := h', toks := tk } := fun i v h' tk bs hv rr hk => by
    rw [← minDD_py] at rr
    obtain ⟨w, w1, w2⟩ := best_at I p hr r hv (mem_fold (fun a y => ite_or) ys y) rr hk
    exact ⟨w, H, I.kept hk, w2, po.here rm w1 q⟩
  rcases hl with hl | hl
  · exact PySem.W.min_list_data (x := y.py) (xs := D.pys ys) (I.ok.hd hc) hl g al (by have : PyData.depthAll (y.py :: D.pys ys) ≤ 60 := hz; omega) fin
  · exact PySem.W.min_tuple_data (x := y.py) (xs := D.pys ys) (I.ok.hd hc) hl g al (by have : PyData.depthAll (y.py :: D.pys ys) ≤ 60 := hz; omega) fin⟩
end
end MP

namespace MP
open PySem PySem.Spec PyProof.Rows L2

/-! ### max(xs, default=d) -/
structure WK where
  f : List D → List D → Mem → (D → Mem → Prop) → Prop
  mono : ∀ ds es M Q Q', (∀ d M, Q d M → Q' d M) → f ds es M Q → f ds es M Q'
def lK (P : Program) (w : World) (K : PySem.W.Frag) (r : WK) : List V → List V → Hp → VK → Prop := fun xs zs H Q => ∃ ds es M Q', RelDs K H ds xs ∧ RelDs K H es zs ∧ RelM P w K H M ∧ r.f ds es M Q' ∧ Post P w K H M Q' Q
structure DNK (X : Cx) (f : Value) (ks : List Str) (r : WK) : Prop where
  op : CallRK X f ks (lK X.prog X.w X.K r)
structure DKw (X : Cx) (kws : List Keyword) (t : WA) : Prop where
  pk : PK X kws (lA X.prog X.w X.K t)
theorem PK.imp {X : Cx} {e : List Keyword} {t u : TA} (h : PK X e t) (i : ∀ σ H Q, u σ H Q → t σ H Q) : PK X e u := ⟨fun pos pins s σ H Q I q => h.run pos pins s σ H Q I (i _ _ _ q)⟩
def wCK (r : WK) (t tk : WA) : WE := ⟨fun ρ M Q => t.f ρ M fun ds M1 => tk.f ρ M1 fun es M2 => r.f ds es M2 Q, fun ρ M Q Q' h q => t.mono _ _ _ _ (fun _ _ q => tk.mono _ _ _ _ (fun _ _ q => r.mono _ _ _ _ _ h q) q) q⟩
def bestD (g : D → List D → D) (e : D) : List D → D
  | [] => e
  | y :: ys => g y ys
def kBestD (g : D → List D → D) : WK := ⟨fun ds es M Q => ∃ d e, ds = [d] ∧ es = [e] ∧ itemsF d M fun xs => D.pls xs ∧ PySem.W.AlikeAll (D.pys xs) ∧ D.deps xs ≤ 60 ∧ Q (bestD g e xs) M,
  fun ds es M Q Q' h q => by
    obtain ⟨d, e, e0, e1, q⟩ := q
    exact ⟨d, e, e0, e1, itemsF_mono (fun xs ⟨e2, e3, e4, q⟩ => ⟨e2, e3, e4, h _ _ q⟩) q⟩⟩
abbrev kMaxD : WK := kBestD maxDD
abbrev kMinD : WK := kBestD minDD
section
variable {X : Cx} {x : Str} {p pos : Pos} {e : Expr} {es : List Expr} {kws : List Keyword} {t tk : WA} {id : String} {ks : List Str} {r : WK} {we : WE} {nm : Option Str} {kpos : Pos}
theorem dk_nil : DKw X [] aNil := ⟨PK.imp pk_nil fun σ H Q ⟨ρ, M, Q', rs, rm, q, po⟩ => po [] [] H M Step.refl rm .nil q⟩
theorem dk_cons (ha : DE X e we) (hr : DKw X kws t) : DKw X (⟨nm, e, kpos⟩ :: kws) (aCons we t) :=
  ⟨PK.imp (pk_cons ha.pe hr.pk) fun σ H Q ⟨ρ, M, Q', rs, rm, q, po⟩ => ⟨ρ, M, _, rs, rm, q, fun x d H1 M1 s1 m1 r1 q1 => ⟨ρ, M1, _, rs.keep (s1.keep rm), m1, q1, fun vs ds H2 M2 s2 m2 r2 q2 =>
    po (x :: vs) (d :: ds) H2 M2 (s1.trans s2) m2 (.cons (r1.keep (s2.keep m1)) r2) q2⟩⟩⟩
theorem de_callBK (hc : DNK X (.builtin id) ks r) (hg : Gl X x) (hm : X.mg x = none) (hv : bootBuiltins x = some (.builtin id)) (ha : DA X (e :: es) t) (hk : DKw X kws tk) (hn : x ≠ "__name__" := by decide) (hdb : (x == ("__debug__" : Str)) = false := by decide)
    (he : backTo pos (starEach (e :: es) X.env) = (false, eval e X.env) :: backTo pos (starEach es X.env) := by rfl) (hpl : (backTo pos (starEach (e :: es) X.env)).any (·.1) = false := by rfl)
    (hall : (backToKw pos (keywordEach kws X.env)).all (·.1.isSome) = true := by rfl) (hnone : (backToKw pos (keywordEach kws X.env)).any (·.1.isNone) = false := by rfl) (hks : (backToKw pos (keywordEach kws X.env)).filterMap (·.1) = ks := by rfl) :
    DE X (.Call (.Name x p) (e :: es) kws pos) (wCK r t tk) :=
  ⟨PE.imp (pe_callBK hc.op hg hm hv ha.pa hk.pk hn hdb he hpl hall hnone hks) fun σ H Q ⟨ρ, M, Q', rs, rm, q, po⟩ => ⟨ρ, M, _, rs, rm, q, fun vs ds H1 M1 s1 m1 r1 q1 => ⟨ρ, M1, _, rs.keep (s1.keep rm), m1, q1, fun zs es' H2 M2 s2 m2 r2 q2 =>
    ⟨ds, es', M2, Q', r1.keep (s2.keep m1), r2, m2, q2, (po.after s1).after s2⟩⟩⟩⟩
end
section
variable {X : Cx}
theorem f_maxD (hc : X.calm = true) (hu : X.A.units + 64 < cLine) : DNK X (.builtin "max") [Str.ofString "default"] kMaxD := ⟨fun pins s σ H xs zs us ws Q I rx rz ⟨ds, es, M, Q', rds, res, rm, ⟨d, e, e0, e1, q⟩, po⟩ => by
  subst e0 e1
  obtain ⟨x, rfl, rd⟩ := rel1 rds
  obtain ⟨z, rfl, re⟩ := rel1 res
  obtain ⟨a, xs, vs, its, rfl, ⟨p, al, hz, q⟩, hr, r, hl⟩ := items_at I rm rd q
  obtain ⟨u, rfl, ru⟩ := vals1 rx
  cases ru
  obtain ⟨w1, rfl, rw1⟩ := vals1 rz
  obtain ⟨as, g⟩ := Inv.rds I hr p r
  have fin0 : D.pys xs = [] → ∀ (h' : Heap) (tk : Nat), (∀ b o, s.heap.get? b = some o → h'.get? b = some o) → EP X pins σ Q w1 { s with heap := h', toks := tk } := fun hx h' tk hk => by
    have : xs = [] := by cases xs with | nil => rfl | cons y ys => simp [D.pys] at hx
    subst this
    exact ⟨z, H, I.kept hk, rw1, po.here rm re q⟩
  have fin : ∀ (y : PyData) (ys : List PyData) (i : Nat) (v : Value) (h' : Heap) (tk : Nat) (bs : List Addr), D.pys xs = y :: ys → its.toArray[i]? = some v → Reads h' v (PySem.W.maxD y ys) bs → (∀ b o, s.heap.get? b = some o → h'.get? b = some o) → EP X pins σ Q v { s with heap := h', toks := tk } := fun y ys i v h' tk bs hx hv rr hk => by
    cases xs with
    | nil => simp [D.pys] at hx
    | cons y' ys' =>
      simp only [D.pys, List.cons.injEq] at hx
      obtain ⟨rfl, rfl⟩ := hx
      rw [← maxDD_py] at rr
      obtain ⟨w, w1, w2⟩ := best_at I p hr r hv (mem_fold (fun a y => ite_or) ys' y') rr hk
      exact ⟨w, H, I.kept hk, w2, po.here rm w1 q⟩
  rcases hl with hl | hl
  · exact PySem.W.max_list_default (I.ok.hd hc) hl g al (by have : PyData.depthAll (D.pys xs) ≤ 60 := hz; omega) fin0 fin
  · exact PySem.W.max_tuple_default (I.ok.hd hc) hl g al (by have : PyData.depthAll (D.pys xs) ≤ 60 := hz; omega) fin0 fin⟩
theorem f_minD (hc : X.calm = true) (hu : X.A.units + 64 < cLine) : DNK X (.builtin "min") [Str.ofString "default"] kMinD := ⟨fun pins s σ H xs zs us ws Q I rx rz ⟨ds, es, M, Q', rds, res, rm, ⟨d, e, e0, e1, q⟩, po⟩ => by
  subst e0 e1
  obtain ⟨x, rfl, rd⟩ := rel1 rds
  obtain ⟨z, rfl, re⟩ := rel1 res
  obtain ⟨a, xs, vs, its, rfl, ⟨p, al, hz, q⟩, hr, r, hl⟩ := items_at I rm rd q
  obtain ⟨u, rfl, ru⟩ := vals1 rx
  cases ru
  obtain ⟨w1, rfl, rw1⟩ := vals1 rz
  obtain ⟨as, g⟩ := Inv.rds I hr p r
  have fin0 : D.pys xs = [] → ∀ (h' : Heap) (tk : Nat), (∀ b o, s.heap.get? b = some o → h'.get? b = some o) → EP X pins σ Q w1 { s with heap := h', toks := tk } := fun hx h' tk hk => by
    have : xs = [] := by cases xs with | nil => rfl | cons y ys => simp [D.pys] at hx
    subst this
    exact ⟨z, H, I.kept hk, rw1, po.here rm re q⟩
  have fin : ∀ (y : PyData) (ys : List PyData) (i : Nat) (v : Value) (h' : Heap) (tk : Nat) (bs : List Addr), D.pys xs = y :: ys → its.toArray[i]? = some v → Reads h' v (PySem.W.minD y ys) bs → (∀ b o, s.heap.get? b = some o → h'.get? b = some o) → EP X pins σ Q v { s with heap := h', toks := tk } := fun y ys i v h' tk bs hx hv rr hk => by
    cases xs with
    | nil => simp [D.pys] at hx
    | cons y' ys' =>
      simp only [D.pys, List.cons.injEq] at hx
      obtain ⟨rfl, rfl⟩ := hx
      rw [← minDD_py] at rr
      obtain ⟨w, w1, w2⟩ := best_at I p hr r hv (mem_fold (fun a y => ite_or) ys' y') rr hk
      exact ⟨w, H, I.kept hk, w2, po.here rm w1 q⟩
  rcases hl with hl | hl
  · exact PySem.W.min_list_default (I.ok.hd hc) hl g al (by have : PyData.depthAll (D.pys xs) ≤ 60 := hz; omega) fin0 fin
  · exact PySem.W.min_tuple_default (I.ok.hd hc) hl g al (by have : PyData.depthAll (D.pys xs) ≤ 60 := hz; omega) fin0 fin⟩
end

/-! ### own defs -/
/-- what a def promises, as HandS takes it -/
def lSp (P : Program) (w : World) (K : PySem.W.Frag) (r : WN) : Sp := fun vs H Q _ => lN P w K r vs H Q
/-- what is known of M' (more) is enough for M'' (less, or told otherwise) -/
def Vw (P : Program) (w : World) (K : PySem.W.Frag) (M' M'' : Mem) : Prop := (∀ a, M' a = none → M'' a = none) ∧ ∀ H, RelM P w K H M' → RelM P w K H M''
def Fin (P : Program) (w : World) (K : PySem.W.Frag) (Q : D → Mem → Prop) (d : D) (M' : Mem) : Prop := ∃ M'', Vw P w K M' M'' ∧ Q d M''
def startD (n : Nat) (ds : List D) : Sl := ds.map some ++ List.replicate (n - ds.length) none
def enD (P : Program) (w : World) (K : PySem.W.Frag) (Q : D → Mem → Prop) : DEn := { nx := fun _ M' => Fin P w K Q .non M', rt := Fin P w K Q }
/-- THE PLAIN LAW of a def: its body keeps its promise -/
def FnLaw (n k : Nat) (b : WS) (r : WN) : Prop := ∀ (P : Program) (w : World) (K : PySem.W.Frag) (H : Hp) (ds : List D) (M : Mem) (Q : D → Mem → Prop), RelM P w K H M → r.f ds M Q →
  ds.length = k ∧ ∃ M0, RelM P w K H M0 ∧ (∀ a, M a = none → M0 a = none) ∧ b.f (enD P w K Q) (startD n ds) M0
/-- a def that may be called by its name -/
structure Cal (P : Program) (w : World) (K : PySem.W.Frag) (mg : Str → Option Value) (base : Heap) (k : Nat) (x : Str) (r : WN) : Prop where
  ex : ∃ (f : Addr) (fd : FuncData) (ps : List Str), FnOk P w K mg base C8.CX0 k f fd ps (lSp P w K r) ∧ mg x = some (.ref f) ∧ PySem.W.keepIn K (.ref f) = true ∧ Binds K fd ps []
theorem relS_start {K : PySem.W.Frag} {H : Hp} {N : List Str} {ds : List D} {vs : List V} (r : RelDs K H ds vs) : RelS K H (startD N.length ds) (L2.start N vs) := by
  have hl := r.length
  refine ⟨by unfold startD L2.start; simp only [List.length_append, List.length_map, List.length_replicate]; omega, fun i d e => ?_⟩
  unfold startD at e
  by_cases hi : i < ds.length
  · rw [List.getElem?_append_left (by rw [List.length_map]; exact hi), List.getElem?_map] at e
    obtain ⟨d', h1, h2⟩ := Option.map_eq_some_iff.mp e
    cases h2
    obtain ⟨v, h3, h4⟩ := r.get h1
    exact ⟨v, by unfold L2.start; rw [List.getElem?_append_left (by rw [List.length_map]; omega), List.getElem?_map, h3]; rfl, h4⟩
  · rw [List.getElem?_append_right (by rw [List.length_map]; omega), List.getElem?_replicate] at e
    split at e <;> cases e
section
variable {P : Program} {w : World} {K : PySem.W.Frag} {mg : Str → Option Value} {base : Heap} {x qual : Str} {params : Arguments} {body : List Stmt} {scope : Scope} {f : Addr} {fd : FuncData} {N ps : List Str} {k : Nat} {b : WS} {r : WN}
theorem fnok (F : FunD K x qual params body scope [] [] f fd) (S : FnScope N ps scope) (law : FnLaw N.length ps.length b r)
    (hb : ∀ (cdv : Value) (A : Around) (outer : List Env) (s : Shared) (H : Hp) (E : XK), Room k (A.deeper (envOfC qual scope s.heap.objs.size f cdv)) → DSs (cxOf C8.CX0 P w K mg base N qual scope f cdv A outer s H E) body b) :
    FnOk P w K mg base C8.CX0 (k + 1) f fd ps (lSp P w K r) := by
  refine F.ok S (fun vs H Q E ⟨ds, M, Q', rds, rm, q, po⟩ => ?_) fun cdv A outer s H vs Q E hr ⟨ds, M, Q', rds, rm, q, po⟩ => ⟨_, (hb cdv A outer s H E hr).pss, ?_⟩
  · rw [← rds.length]; exact (law P w K H ds M Q' rm q).1
  · obtain ⟨_, M0, rm0, hM0, q0⟩ := law P w K H ds M Q' rm q
    have st : ∀ {H' M' M''}, Step H M0 H' M' → Vw P w K M' M'' → Step H M H' M'' := fun s1 v a o h m => let ⟨h1, m1⟩ := s1 a o h (hM0 a m); ⟨h1, v.1 a m1⟩
    refine ⟨startD N.length ds, M0, enD P w K Q', relS_start rds, rm0, q0, ⟨fun σ ρ H' M' s1 m1 r1 q1 => ?_, fun v d H' M' s1 m1 r1 q1 => ?_, fun _ _ _ _ _ _ _ z => z, fun _ _ _ _ _ _ _ z => z⟩⟩
    · obtain ⟨M'', vw, q2⟩ := q1
      exact po .non .non H' M'' (st s1 vw) (vw.2 _ m1) .non q2
    · obtain ⟨M'', vw, q2⟩ := q1
      exact po v d H' M'' (st s1 vw) (vw.2 _ m1) r1 q2
theorem cal_of (F : FunD K x qual params body scope [] [] f fd) (S : FnScope N ps scope) (hm : mg x = some (.ref f)) (bd : Binds K fd ps []) (law : FnLaw N.length ps.length b r)
    (hb : ∀ (cdv : Value) (A : Around) (outer : List Env) (s : Shared) (H : Hp) (E : XK), Room k (A.deeper (envOfC qual scope s.heap.objs.size f cdv)) → DSs (cxOf C8.CX0 P w K mg base N qual scope f cdv A outer s H E) body b) :
    Cal P w K mg base (k + 1) x r := ⟨f, fd, ps, fnok F S law hb, hm, F.kp, bd⟩
theorem Cal.imp {r r' : WN} (c : Cal P w K mg base k x r) (h : ∀ ds M Q, r'.f ds M Q → r.f ds M Q) : Cal P w K mg base k x r' := by
  obtain ⟨f, fd, ps, F, hm, kp, b⟩ := c.ex
  exact ⟨f, fd, ps, F.imp fun vs H Q E ⟨ds, M, Q', rds, rm, q, po⟩ => ⟨ds, M, Q', rds, rm, h _ _ _ q, po⟩, hm, kp, b⟩
end
section
variable {X : Cx} {k j : Nat} {x : Str} {r : WN} {p pos : Pos} {e : Expr} {es : List Expr} {t : WA}
theorem de_call (c : Cal X.prog X.w X.K X.mg X.base k x r) (hr : Room j X.A) (hk : k ≤ j) (hg : Gl X x) (ha : DA X (e :: es) t)
    (hdb : (x == ("__debug__" : Str)) = false := by decide) (he : starEach (e :: es) X.env = (false, eval e X.env) :: starEach es X.env := by rfl) (hpl : (backTo pos (starEach es X.env)).any (·.1) = false := by rfl) :
    DE X (.Call (.Name x p) (e :: es) [] pos) (wCB r t) := by
  obtain ⟨f, fd, ps, F, hm, kp, b⟩ := c.ex
  exact ⟨PE.imp (pe_call F (hr.mono hk) hg hm kp b .nil C8.pass0 (E := C8.E0) ha.pa hdb he hpl) fun σ H Q ⟨ρ, M, Q', rs, rm, q, po⟩ => ⟨ρ, M, _, rs, rm, q, fun vs ds H1 M1 s1 m1 r1 q1 => by
    show lSp X.prog X.w X.K r (vs ++ []) H1 Q C8.E0
    rw [List.append_nil]
    exact ⟨ds, M1, Q', r1, m1, q1, po.after s1⟩⟩⟩
theorem de_call0 (c : Cal X.prog X.w X.K X.mg X.base k x r) (hr : Room j X.A) (hk : k ≤ j) (hg : Gl X x) (hdb : (x == ("__debug__" : Str)) = false := by decide) : DE X (.Call (.Name x p) [] [] pos) (wCB r aNil) := by
  obtain ⟨f, fd, ps, F, hm, kp, b⟩ := c.ex
  exact ⟨PE.imp (pe_call0 F (hr.mono hk) hg hm kp b .nil C8.pass0 (E := C8.E0) hdb) fun σ H Q ⟨ρ, M, Q', rs, rm, q, po⟩ => ⟨[], M, Q', .nil, rm, q, po⟩⟩
end
end MP

namespace MP
open PySem PySem.Spec PyProof.Rows L2

/-! ### a value's truth -/
def truF (d : D) (M : Mem) (Q : Bool → Prop) : Prop := match d with
  | .non => Q false
  | .bl b => Q b
  | .int i => Q (i != 0)
  | .str z => z.length ≤ sizeLine ∧ Q ((z.length : Int) != 0)
  | .tup xs => Q (!xs.isEmpty)
  | .fl xs => Q (!xs.isEmpty)
  | .ref a => (∃ xs, M a = some (.lst xs) ∧ Q (!xs.isEmpty)) ∨ ∃ kvs, M a = some (.dic kvs) ∧ (∀ p ∈ kvs, p.1.pkey.isSome = true) ∧ Q (!kvs.isEmpty)
  | _ => False
theorem truF_mono {d : D} {M : Mem} {Q Q' : Bool → Prop} (h : ∀ b, Q b → Q' b) (q : truF d M Q) : truF d M Q' := by
  cases d <;> first
    | exact q.elim
    | exact h _ q
    | exact ⟨q.1, h _ q.2⟩
    | (rcases q with ⟨xs, e, q⟩ | ⟨xs, e, e2, q⟩
       · exact .inl ⟨xs, e, h _ q⟩
       · exact .inr ⟨xs, e, e2, h _ q⟩)
/-- a value as a test, whatever it is -/
def wtV (a : WE) : WT := ⟨fun ρ M Q => a.f ρ M fun d M1 => truF d M1 fun b => Q b M1, fun ρ M Q Q' h q => a.mono _ _ _ _ (fun _ _ q => truF_mono (fun b => h b _) q) q⟩
theorem emp_rel {K : PySem.W.Frag} {H : Hp} {ds : List D} {vs : List V} (r : RelDs K H ds vs) : vs.isEmpty = ds.isEmpty := by cases r <;> rfl
section
variable {X : Cx} {a : Expr} {wa : WE}
theorem dt_tru (h : DE X a wa) (he : ∀ whole, isTrue a X.env whole = (do let v ← whole; standAt a.pos; holding [v] (truthy v)) := by intro _; rfl) : DT X a (wtV wa) :=
  ⟨PT.imp (pt_truth h.pe he) fun σ H Q ⟨ρ, M, Q', rs, rm, q, po⟩ => ⟨ρ, M, _, rs, rm, q, fun v d H1 M1 s1 m1 r1 q1 => by
    cases r1 with
    | non => exact ⟨false, rfl, po _ H1 M1 s1 m1 q1⟩
    | bl b => exact ⟨b, rfl, po _ H1 M1 s1 m1 q1⟩
    | int i => exact ⟨_, rfl, po _ H1 M1 s1 m1 q1⟩
    | str z => exact ⟨_, ⟨q1.1, rfl⟩, po _ H1 M1 s1 m1 q1.2⟩
    | tup ht hr => exact ⟨_, .inr (.inl ⟨_, ht.sq, rfl⟩), po _ H1 M1 s1 m1 (by rw [emp_rel hr]; exact q1)⟩
    | fl ht hr => exact ⟨_, .inl ⟨_, ht.sq, rfl⟩, po _ H1 M1 s1 m1 (by rw [emp_rel hr]; exact q1)⟩
    | ref p =>
      rcases q1 with ⟨xs, h0, q1⟩ | ⟨kvs, h0, hp, q1⟩
      · obtain ⟨vs, hH, hr⟩ := m1 _ _ h0
        exact ⟨_, .inl ⟨_, .inl (.inl hH), rfl⟩, po _ H1 M1 s1 m1 (by rw [emp_rel hr]; exact q1)⟩
      · obtain ⟨L, hH, e1, e2⟩ := dic_k m1 h0 hp
        refine ⟨_, .inr (.inr ⟨L, hH, rfl⟩), po _ H1 M1 s1 m1 ?_⟩
        have : L.isEmpty = kvs.isEmpty := by
          cases kvs <;> cases L <;> first | rfl | simp at e1
        rw [this]; exact q1
    | ty n => exact q1.elim⟩⟩
end

/-! ### dict comprehensions, keys ints or texts -/
def dcF (g : WG) (tt : WT) (tk te : WE) (stay : Mem → Prop) (ρ : Sl) (Q : D → Mem → Prop) : List D → List (D × D) → Mem → Prop
  | [], acc, M => stay M ∧ ∀ p, M p = none → Q (.ref p) (mupd M p (.dic acc))
  | x :: xs, acc, M => stay M ∧ g.f x ρ M fun ρ2 M2 => tt.f ρ2 M2 fun b M3 => (b = true → tk.f ρ2 M3 fun k M4 => te.f ρ2 M4 fun y M5 => k.pkey.isSome = true ∧ acc.length < sizeLine ∧ dcF g tt tk te stay ρ Q xs (dputD acc k y) M5) ∧ (b = false → dcF g tt tk te stay ρ Q xs acc M3)
theorem dcF_mono {g : WG} {tt : WT} {tk te : WE} {stay : Mem → Prop} {ρ : Sl} {Q Q' : D → Mem → Prop} (h : ∀ d M, Q d M → Q' d M) : ∀ (xs : List D) (acc : List (D × D)) (M : Mem), dcF g tt tk te stay ρ Q xs acc M → dcF g tt tk te stay ρ Q' xs acc M
  | [], _, _, q => ⟨q.1, fun p hp => h _ _ (q.2 p hp)⟩
  | x :: xs, acc, M, q => ⟨q.1, g.mono _ _ _ _ _ (fun ρ2 M2 q => tt.mono _ _ _ _ (fun b M3 q => ⟨fun e => tk.mono _ _ _ _ (fun k M4 q => te.mono _ _ _ _ (fun y M5 q => ⟨q.1, q.2.1, dcF_mono h xs _ _ q.2.2⟩) q) (q.1 e), fun e => dcF_mono h xs _ _ (q.2 e)⟩) q) q.2⟩
def wDc (wi : WI) (g : WG) (tt : WT) (tk te : WE) (vs : List Nat) : WE := ⟨fun ρ M Q => wi.f ρ M fun items stay M1 => dcF g tt tk te stay (wipeD ρ vs) Q items [] M1,
  fun ρ M Q Q' h q => wi.mono _ _ _ _ (fun ds st M q => dcF_mono h ds [] M q) q⟩
def EntK (K : PySem.W.Frag) (H : Hp) (kvs : List (D × D)) (L : List (Key × V)) : Prop := kvs.map (fun p => p.1.pkey) = L.map (fun p => some p.1) ∧ RelDs K H (kvs.map (·.2)) (L.map (·.2))
theorem EntK.keep {K : PySem.W.Frag} {H H' : Hp} {kvs : List (D × D)} {L : List (Key × V)} (k : Keep H H') (e : EntK K H kvs L) : EntK K H' kvs L := ⟨e.1, e.2.keep k⟩
theorem dc_imp {P : Program} {w : World} {K : PySem.W.Frag} {wi : WI} {g : WG} {tt : WT} {tk te : WE} {vs : List Nat} (hsl : ∀ i ∈ g.sl, i ∈ vs) (σ : L2.St) (H : Hp) (Q : VK) (h : lE P w K (wDc wi g tt tk te vs) σ H Q) :
    tDc (lI P w K wi) (lG P w K g) (lT P w K tt) (lE P w K tk) (lE P w K te) vs σ H Q := by
  obtain ⟨ρ, M, Q', rs, rm, q, po⟩ := h
  refine ⟨ρ, M, _, rs, rm, q, fun J items stay H1 M1 s1 m1 q1 ok Dd hD => ?_⟩
  refine ⟨fun i m H2 => i + m = items.length ∧ ∃ M2 acc L, H2 Dd = some (.dK L) ∧ M2 Dd = none ∧ EntK K H2 acc L ∧ Step H1 M1 H2 M2 ∧ RelM P w K H2 M2 ∧ dcF g tt tk te stay (wipeD ρ vs) Q' (items.drop i) acc M2,
    ⟨items.length, by omega, M1, [], [], upd_same, m1.free hD, ⟨rfl, .nil⟩, Step.beside hD, m1.beside hD, by rw [List.drop_zero]; exact q1⟩, ?_⟩
  rintro i m H2 ⟨hm, M2, acc, L, hDd, hMd, racc, s2, m2, q2⟩
  by_cases hi : i < items.length
  · right
    rw [List.drop_eq_getElem_cons hi] at q2
    obtain ⟨sy, q2⟩ := q2
    obtain ⟨_, k2⟩ := ok i H2 M2 (s2.keep m1) m2 sy
    obtain ⟨go, yl⟩ := k2 _ (List.getElem?_eq_getElem hi)
    refine ⟨go, fun H' => ∃ M' acc L, H' Dd = some (.dK L) ∧ M' Dd = none ∧ EntK K H' acc L ∧ Step H1 M1 H' M' ∧ RelM P w K H' M' ∧ dcF g tt tk te stay (wipeD ρ vs) Q' (items.drop (i + 1)) acc M', fun H' h => ⟨m - 1, by omega, by omega, h⟩, fun x H' hy => ?_⟩
    obtain ⟨s3, m3, r3⟩ := yl x H' hy
    have rsw := (rs.keep ((s1.trans (s2.trans s3)).keep rm)).wipe vs
    refine ⟨_, wipeD ρ vs, M2, _, r3, rsw, m3, q2, fun σ4 ρ4 H4 M4 s4 m4 r4 ss4 q4 => ⟨wipe_same ss4 hsl, ρ4, M4, _, r4, m4, q4, fun b H5 M5 s5 m5 q5 => ?_⟩⟩
    have s25 := s3.trans (s4.trans s5)
    obtain ⟨hD5, hM5⟩ := s25 Dd _ hDd hMd
    cases b with
    | false => exact iteF ⟨M5, acc, L, hD5, hM5, racc.keep (s25.keep m2), s2.trans s25, m5, q5.2 rfl⟩
    | true =>
      refine iteT ⟨ρ4, M5, _, r4.keep (s5.keep m4), m5, q5.1 rfl, fun kv kd H6 M6 s6 m6 r6 q6 => ⟨ρ4, M6, _, r4.keep ((s5.trans s6).keep m4), m6, q6, fun v d H7 M7 s7 m7 r7 q7 => ?_⟩⟩
      have s27 := s25.trans (s6.trans s7)
      obtain ⟨hD7, hM7⟩ := s27 Dd _ hDd hMd
      obtain ⟨p1, p2, q7⟩ := q7
      obtain ⟨k, hk⟩ := Option.isSome_iff_exists.mp p1
      have racc7 := racc.keep (s27.keep m2)
      have hl : acc.length = L.length := by have := congrArg List.length racc.1; rw [List.length_map, List.length_map] at this; exact this
      have kW := m7.hidW (u := .dK (putK L k v)) hD7 hM7 trivial
      refine ⟨L, k, pkey_rel hk (r6.keep (s7.keep m6)), hD7, by rw [← hl]; exact p2, M7, dputD acc kd d, putK L k v, upd_same, hM7, ?_, ?_, kW.1, q7⟩
      · have := putK_rel hk racc7.1 racc7.2 r7
        exact ⟨this.1, this.2.keep kW.2⟩
      · intro a o ha hma
        obtain ⟨h1, h2⟩ := (s2.trans s27) a o ha hma
        have ne : a ≠ Dd := fun z => by subst z; rw [hD] at ha; cases ha
        exact ⟨by rw [upd_ne ne]; exact h1, h2⟩
  · left
    rw [List.drop_of_length_le (by omega)] at q2
    obtain ⟨sy, q2⟩ := q2
    refine ⟨(ok i H2 M2 (s2.keep m1) m2 sy).1 (by omega), po (.ref Dd) (.ref Dd) H2 (mupd M2 Dd (.dic acc)) ?_ ?_ (.ref Dd) (q2 Dd hMd)⟩
    · intro a o ha hma
      obtain ⟨h1, h2⟩ := s1 a o ha hma
      obtain ⟨h3, h4⟩ := s2 a o h1 h2
      have ne : a ≠ Dd := fun z => by subst z; rw [hD] at h1; cases h1
      exact ⟨h3, by rw [mupd_ne ne]; exact h4⟩
    · intro a o ha
      by_cases e : a = Dd
      · subst e; rw [mupd_same] at ha; cases ha; exact .inl ⟨L, hDd, racc.1, racc.2⟩
      · rw [mupd_ne e] at ha
        exact RelO.step m2 ⟨fun _ _ h => h, fun _ _ _ h => h⟩ (m2 a o ha) (fun _ _ => rfl) ha fun b _ hb => by
          rw [mupd_ne (fun z => by rw [z, hMd] at hb; cases hb)]; exact hb
section
variable {X : Cx}
theorem de_dc {kx vx tg iter : Expr} {ifs : List Expr} {scope : Scope} {own : List (Str × Nat)} {pos : Pos} {wi : WI} {g : WG} {tt : WT} {tk te : WE} (hc : X.calm = true) (hN : X.N.Nodup) (hi : DI X tg iter wi) (ok : BlkOk X.N X.env.scope scope own)
    (hg : ∀ (s : Shared) (H : Hp) (C : Addr) (cl : List (Str × Addr)) (fp : List Addr), DG (X.blk s H scope (compEnvC scope cl C X.env) fp) tg g) (ht : ∀ (s : Shared) (H : Hp) (C : Addr) (cl : List (Str × Addr)) (fp : List Addr), DTs (X.blk s H scope (compEnvC scope cl C X.env) fp) ifs tt)
    (hk : ∀ (s : Shared) (H : Hp) (C : Addr) (cl : List (Str × Addr)) (fp : List Addr), DE (X.blk s H scope (compEnvC scope cl C X.env) fp) kx tk)
    (he : ∀ (s : Shared) (H : Hp) (C : Addr) (cl : List (Str × Addr)) (fp : List Addr), DE (X.blk s H scope (compEnvC scope cl C X.env) fp) vx te) (hsl : ∀ i ∈ g.sl, i ∈ own.map (·.2) := by decide) (hs : ∀ x, foldedSetIterable iter X.env x = pure x := by intro _; rfl) :
    DE X (.DictComp kx vx [⟨tg, iter, ifs, 0⟩] scope pos) (wDc wi g tt tk te (own.map (·.2))) :=
  ⟨PE.imp (pe_dc hc hN hi.pi ok (fun s H C cl fp => (hg s H C cl fp).pg) (fun s H C cl fp => (ht s H C cl fp).pts) (fun s H C cl fp => (hk s H C cl fp).pe) (fun s H C cl fp => (he s H C cl fp).pe) hs) (dc_imp hsl)⟩
/-- a dict comprehension whose dict goes straight to a local name (both stand on one row) -/
theorem swd_true {kx vx : Expr} {gs : List Comprehension} {sc : Scope} {p1 p2 : Pos} {y : Str} {n : Nat} {env : Env} (h1 : env.scope.kind = .function) (h2 : env.scope.names.lookup y = some .local) (h3 : (p2.line == p1.line) = true)
    (h4 : (sc.names.any fun (m, k) => m == y && (k == .local || k == .cell)) = false) : swapsWith (.DictComp kx vx gs sc p1) (some (.Name y p2)) n env = pure true := by
  have e1 : env.kindOf y = some .local := h2
  have e2 : env.blockKind = .function := by unfold Env.blockKind; rw [h1]; rfl
  unfold swapsWith
  simp only [e2, e1, h4, Expr.pos, h3]
  rfl
/-- a block's frame may go once the name has its value -/
theorem block_left {pins : List (Addr × Obj)} {σ : L2.St} {H : Hp} {s s' : Shared} {C : Addr} {m : Str → Option Value} {y : Str} (f : FpOk X pins H C) (hn : s.heap.Ns C m) (I : Inv X pins σ H s')
    (h : ∃ a, Heap.SameBut a s.heap s'.heap ∧ (a = X.env.locals ∨ X.env.cells.lookup y = some a)) : ∃ m', s'.heap.Ns C m' ∧ ∀ h', Heap.SameBut C s'.heap h' → Inv X pins σ H { s' with heap := h' } := by
  obtain ⟨a, same, which⟩ := h
  have apart : C ≠ a := which.elim (fun e => by rw [e]; exact f.2.1) (fun e => (f.2.2.2.2.1 y a e).symm)
  exact ⟨m, hn.sameBut same apart, fun h' sb => I.turned (t' := s'.toks) (fun b o hb e => (sb.2 b hb).trans e) f.1 f.2.1 f.2.2.2.1 f.2.2.2.2.1 f.2.2.2.2.2⟩
theorem ds_setDc {i : Nat} {y : Str} {py pos spos : Pos} {kx vx tg iter : Expr} {ifs : List Expr} {scope : Scope} {own : List (Str × Nat)} {wi : WI} {g : WG} {tt : WT} {tk te : WE} (hc : X.calm = true) (hN : X.N.Nodup) (hy : X.N[i]? = some y) (hyl : X.env.scope.names.lookup y = some .local)
    (hsw : swapsWith (.DictComp kx vx [⟨tg, iter, ifs, 0⟩] scope pos) (some (.Name y py)) spos.line X.env = pure true) (hi : DI X tg iter wi) (ok : BlkOk X.N X.env.scope scope own)
    (hg : ∀ (s : Shared) (H : Hp) (C : Addr) (cl : List (Str × Addr)) (fp : List Addr), DG (X.blk s H scope (compEnvC scope cl C X.env) fp) tg g) (ht : ∀ (s : Shared) (H : Hp) (C : Addr) (cl : List (Str × Addr)) (fp : List Addr), DTs (X.blk s H scope (compEnvC scope cl C X.env) fp) ifs tt)
    (hk : ∀ (s : Shared) (H : Hp) (C : Addr) (cl : List (Str × Addr)) (fp : List Addr), DE (X.blk s H scope (compEnvC scope cl C X.env) fp) kx tk)
    (he : ∀ (s : Shared) (H : Hp) (C : Addr) (cl : List (Str × Addr)) (fp : List Addr), DE (X.blk s H scope (compEnvC scope cl C X.env) fp) vx te) (hsl : ∀ i ∈ g.sl, i ∈ own.map (·.2) := by decide) (hs : ∀ x, foldedSetIterable iter X.env x = pure x := by intro _; rfl) :
    DS X (.Assign [.Name y py] (.DictComp kx vx [⟨tg, iter, ifs, 0⟩] scope pos) spos) (sAsg (wDc wi g tt tk te (own.map (·.2))) (gN i)) := ⟨by
  refine ⟨fun pins s σ H B I ⟨ρ, M, A, rs, rm, q, po⟩ => ?_⟩
  rw [exec_Assign_Name_used _ _ _ _ hsw]
  refine wpAny_bind (wpAny_standAt (wpAny_bind ?_))
  have h : tDc (lI X.prog X.w X.K wi) (lG X.prog X.w X.K g) (lT X.prog X.w X.K tt) (lE X.prog X.w X.K tk) (lE X.prog X.w X.K te) (own.map (·.2)) σ H (fun x H1 => B.nx (σ.set i (some x)) H1) :=
    dc_imp hsl σ H _ ⟨ρ, M, _, rs, rm, q, fun v d H1 M1 s1 m1 r1 q1 => po.nx _ _ H1 M1 s1 m1 ((rs.keep (s1.keep rm)).set i r1) q1⟩
  refine wpAny_bind (thn (dc_core (use := some (assign (.Name y py) X.env)) (Qf := fun _ s' => SP X pins B .next s') hc hN I hi.pi ok (fun s H C cl fp => (hg s H C cl fp).pg) (fun s H C cl fp => (ht s H C cl fp).pts) (fun s H C cl fp => (hk s H C cl fp).pe) (fun s H C cl fp => (he s H C cl fp).pe) hs h
    fun L C s2 m H2 I2 q2 hn f => ?_) fun _ s2 hq => wpAny_pure (wpAny_pure hq))
  show wpAny _ _ (assign (.Name y py) X.env (.ref L)) _ _ _
  refine wpAny_assign_Name (store_ok2 (v := V.ref L) I2 hN hy (.inl hyl) rfl (fun sB IB hB => ?_) (.inr hyl))
  obtain ⟨mB, nB, left⟩ := block_left f hn IB hB
  exact ⟨mB, nB, fun h' same => ⟨_, H2, left h' same, q2⟩⟩⟩
/-- a name as a target -/
theorem dgn (i : Nat) {x : Str} {pos : Pos} (hN : X.N.Nodup) (hi : X.N[i]? = some x := by rfl) (hx : Loc X.env.scope x := by first | exact Or.inl rfl | exact Or.inr rfl) (hf : X.fn x = true ∨ X.env.scope.names.lookup x = some .local := by first | exact .inl rfl | exact .inr rfl) : DG X (.Name x pos) (gN i) := dg_name hN hi hx hf
end
theorem bt_int : bootBuiltins "int" = some (.type "int") := by decide +kernel
theorem bt_bool : bootBuiltins "bool" = some (.type "bool") := by decide +kernel
theorem bt_str : bootBuiltins "str" = some (.type "str") := by decide +kernel
theorem bt_tuple : bootBuiltins "tuple" = some (.type "tuple") := by decide +kernel
theorem bt_list : bootBuiltins "list" = some (.type "list") := by decide +kernel
theorem bt_dict : bootBuiltins "dict" = some (.type "dict") := by decide +kernel
theorem bb_isinstance : bootBuiltins "isinstance" = some (.builtin "isinstance") := by decide +kernel
theorem bb_len : bootBuiltins "len" = some (.builtin "len") := by decide +kernel
theorem bb_abs : bootBuiltins "abs" = some (.builtin "abs") := by decide +kernel
theorem bb_max : bootBuiltins "max" = some (.builtin "max") := by decide +kernel
theorem bb_min : bootBuiltins "min" = some (.builtin "min") := by decide +kernel
theorem bb_sum : bootBuiltins "sum" = some (.builtin "sum") := by decide +kernel
theorem bb_any : bootBuiltins "any" = some (.builtin "any") := by decide +kernel
theorem bb_all : bootBuiltins "all" = some (.builtin "all") := by decide +kernel
theorem bb_sorted : bootBuiltins "sorted" = some (.builtin "sorted") := by decide +kernel
end MP

namespace MP
open PySem PySem.Spec PyProof.Rows L2

/-! ### the readings, where they are applied (mpl.py printed these) -/
def r2F (ds : List D) (M : Mem) (Q : List D → (Mem → Prop) → Mem → Prop) : Prop := ∃ i j : Int, ds = [.int i, .int j] ∧ (-(2 ^ 62) ≤ i ∧ i < 2 ^ 62 ∧ -(2 ^ 62) ≤ j ∧ j < 2 ^ 62) ∧ Q (rngD i (j - i).toNat) (fun _ => True) M

theorem e_wVar (i : Nat) (ρ : Sl) (M : Mem) (Q : D → Mem → Prop) : (wVar i).f ρ M Q = (∃ d, ρ[i]? = some (some d) ∧ Q d M) := rfl
theorem e_wC (d : D) (ρ : Sl) (M : Mem) (Q : D → Mem → Prop) : (wC d).f ρ M Q = (Q d M) := rfl
theorem e_wOp (r : W2) (a b : WE) (ρ : Sl) (M : Mem) (Q : D → Mem → Prop) : (wOp r a b).f ρ M Q = (a.f ρ M fun d M1 => b.f ρ M1 fun e M2 => r.f d e M2 Q) := rfl
theorem e_wUn (r : W1) (a : WE) (ρ : Sl) (M : Mem) (Q : D → Mem → Prop) : (wUn r a).f ρ M Q = (a.f ρ M fun d M1 => r.f d M1 Q) := rfl
theorem e_aNil  (ρ : Sl) (M : Mem) (Q : List D → Mem → Prop) : (aNil ).f ρ M Q = (Q [] M) := rfl
theorem e_aCons (a : WE) (t : WA) (ρ : Sl) (M : Mem) (Q : List D → Mem → Prop) : (aCons a t).f ρ M Q = (a.f ρ M fun d M1 => t.f ρ M1 fun ds M2 => Q (d :: ds) M2) := rfl
theorem e_wCB (r : WN) (t : WA) (ρ : Sl) (M : Mem) (Q : D → Mem → Prop) : (wCB r t).f ρ M Q = (t.f ρ M fun ds M1 => r.f ds M1 Q) := rfl
theorem e_wCK (r : WK) (t tk : WA) (ρ : Sl) (M : Mem) (Q : D → Mem → Prop) : (wCK r t tk).f ρ M Q = (t.f ρ M fun ds M1 => tk.f ρ M1 fun es M2 => r.f ds es M2 Q) := rfl
theorem e_wTup (t : WA) (ρ : Sl) (M : Mem) (Q : D → Mem → Prop) : (wTup t).f ρ M Q = (t.f ρ M fun ds M1 => ds.length ≤ sizeLine ∧ Q (.tup ds) M1) := rfl
theorem e_wLst (t : WA) (ρ : Sl) (M : Mem) (Q : D → Mem → Prop) : (wLst t).f ρ M Q = (t.f ρ M fun ds M1 => ds.length ≤ sizeLine ∧ ∀ p, M1 p = none → Q (.ref p) (mupd M1 p (.lst ds))) := rfl
theorem e_wtB (a : WE) (ρ : Sl) (M : Mem) (Q : Bool → Mem → Prop) : (wtB a).f ρ M Q = (a.f ρ M fun d M1 => ∃ b, d = .bl b ∧ Q b M1) := rfl
theorem e_wtV (a : WE) (ρ : Sl) (M : Mem) (Q : Bool → Mem → Prop) : (wtV a).f ρ M Q = (a.f ρ M fun d M1 => truF d M1 fun b => Q b M1) := rfl
theorem e_wtNot (a : WT) (ρ : Sl) (M : Mem) (Q : Bool → Mem → Prop) : (wtNot a).f ρ M Q = (a.f ρ M fun b M1 => Q (!b) M1) := rfl
theorem e_wtAnd (a b : WT) (ρ : Sl) (M : Mem) (Q : Bool → Mem → Prop) : (wtAnd a b).f ρ M Q = (a.f ρ M fun c M1 => (c = true → b.f ρ M1 Q) ∧ (c = false → Q false M1)) := rfl
theorem e_wtOr (a b : WT) (ρ : Sl) (M : Mem) (Q : Bool → Mem → Prop) : (wtOr a b).f ρ M Q = (a.f ρ M fun c M1 => (c = true → Q true M1) ∧ (c = false → b.f ρ M1 Q)) := rfl
theorem e_wAnd (a b : WE) (ρ : Sl) (M : Mem) (Q : D → Mem → Prop) : (wAnd a b).f ρ M Q = (a.f ρ M fun d M1 => ∃ c, d = .bl c ∧ (c = true → b.f ρ M1 Q) ∧ (c = false → Q (.bl false) M1)) := rfl
theorem e_wOr (a b : WE) (ρ : Sl) (M : Mem) (Q : D → Mem → Prop) : (wOr a b).f ρ M Q = (a.f ρ M fun d M1 => ∃ c, d = .bl c ∧ (c = true → Q (.bl true) M1) ∧ (c = false → b.f ρ M1 Q)) := rfl
theorem e_wNot (a : WE) (ρ : Sl) (M : Mem) (Q : D → Mem → Prop) : (wNot a).f ρ M Q = (a.f ρ M fun d M1 => ∃ c, d = .bl c ∧ Q (.bl (!c)) M1) := rfl
theorem e_wIf (t : WT) (a b : WE) (ρ : Sl) (M : Mem) (Q : D → Mem → Prop) : (wIf t a b).f ρ M Q = (t.f ρ M fun c M1 => (c = true → a.f ρ M1 Q) ∧ (c = false → b.f ρ M1 Q)) := rfl
theorem e_wChain (r r' : W2) (a b c : WE) (ρ : Sl) (M : Mem) (Q : D → Mem → Prop) : (wChain r r' a b c).f ρ M Q = (a.f ρ M fun x M1 => b.f ρ M1 fun y M2 => r.f x y M2 fun z M3 => ∃ k, z = .bl k ∧ (k = true → c.f ρ M3 fun u M4 => r'.f y u M4 Q) ∧ (k = false → Q (.bl false) M3)) := rfl
theorem e_wSl (e : WE) (lo hi : WO) (ρ : Sl) (M : Mem) (Q : D → Mem → Prop) : (wSl e lo hi).f ρ M Q = (e.f ρ M fun d M1 => lo.f ρ M1 fun l M2 => hi.f ρ M2 fun u M3 => slF d l u M3 Q) := rfl
theorem e_oNone  (ρ : Sl) (M : Mem) (Q : Option Int → Mem → Prop) : (oNone ).f ρ M Q = (Q none M) := rfl
theorem e_oSome (e : WE) (ρ : Sl) (M : Mem) (Q : Option Int → Mem → Prop) : (oSome e).f ρ M Q = (e.f ρ M fun d M1 => ∃ i, d = .int i ∧ Q (some i) M1) := rfl
theorem e_wBM (T : String) (r : WM) (o : WE) (t : WA) (ρ : Sl) (M : Mem) (Q : D → Mem → Prop) : (wBM T r o t).f ρ M Q = (o.f ρ M fun d M1 => tyD T d M1 ∧ t.f ρ M1 fun ds M2 => r.f d ds M2 Q) := rfl
theorem e_wLc (wi : WI) (g : WG) (tt : WT) (te : WE) (vs : List Nat) (ρ : Sl) (M : Mem) (Q : D → Mem → Prop) : (wLc wi g tt te vs).f ρ M Q = (wi.f ρ M fun items stay M1 => lcF g tt te stay (wipeD ρ vs) Q items [] M1) := rfl
theorem e_wLc2 (wi : WI) (g : WG) (tt : WT) (wi1 : WI) (g1 : WG) (tt1 : WT) (te : WE) (vs vs1 : List Nat) (ρ : Sl) (M : Mem) (Q : D → Mem → Prop) : (wLc2 wi g tt wi1 g1 tt1 te vs vs1).f ρ M Q = (wi.f ρ M fun items stay M1 => lc2F g tt wi1 g1 tt1 te vs1 stay (wipeD ρ vs) Q items [] M1) := rfl
theorem e_wDc (wi : WI) (g : WG) (tt : WT) (tk te : WE) (vs : List Nat) (ρ : Sl) (M : Mem) (Q : D → Mem → Prop) : (wDc wi g tt tk te vs).f ρ M Q = (wi.f ρ M fun items stay M1 => dcF g tt tk te stay (wipeD ρ vs) Q items [] M1) := rfl
theorem e_wtYes  (ρ : Sl) (M : Mem) (Q : Bool → Mem → Prop) : (wtYes ).f ρ M Q = (Q true M) := rfl
theorem e_sNil  (A : DEn) (ρ : Sl) (M : Mem) : (sNil ).f A ρ M = (A.nx ρ M) := rfl
theorem e_sSeq (a b : WS) (A : DEn) (ρ : Sl) (M : Mem) : (sSeq a b).f A ρ M = (a.f { A with nx := b.f A } ρ M) := rfl
theorem e_sBreak  (A : DEn) (ρ : Sl) (M : Mem) : (sBreak ).f A ρ M = (A.bk ρ M) := rfl
theorem e_sCont  (A : DEn) (ρ : Sl) (M : Mem) : (sCont ).f A ρ M = (A.ct ρ M) := rfl
theorem e_sDrop (e : WE) (A : DEn) (ρ : Sl) (M : Mem) : (sDrop e).f A ρ M = (e.f ρ M fun _ M1 => A.nx ρ M1) := rfl
theorem e_sRet (e : WE) (A : DEn) (ρ : Sl) (M : Mem) : (sRet e).f A ρ M = (e.f ρ M A.rt) := rfl
theorem e_sRetN  (A : DEn) (ρ : Sl) (M : Mem) : (sRetN ).f A ρ M = (A.rt .non M) := rfl
theorem e_sIf (c : WT) (a b : WS) (A : DEn) (ρ : Sl) (M : Mem) : (sIf c a b).f A ρ M = (c.f ρ M fun k M1 => (k = true → a.f A ρ M1) ∧ (k = false → b.f A ρ M1)) := rfl
theorem e_sAsg (e : WE) (g : WG) (A : DEn) (ρ : Sl) (M : Mem) : (sAsg e g).f A ρ M = (e.f ρ M fun d M1 => g.f d ρ M1 A.nx) := rfl
theorem e_sPar (i j : Nat) (t : WA) (A : DEn) (ρ : Sl) (M : Mem) : (sPar i j t).f A ρ M = (t.f ρ M fun ds M1 => ∃ d e, ds = [d, e] ∧ A.nx ((ρ.set i (some d)).set j (some e)) M1) := rfl
theorem e_sAug (i : Nat) (e : WE) (r : W2) (A : DEn) (ρ : Sl) (M : Mem) : (sAug i e r).f A ρ M = (∃ d, ρ[i]? = some (some d) ∧ e.f ρ M fun c M1 => r.f d c M1 fun z M2 => A.nx (ρ.set i (some z)) M2) := rfl
theorem e_sFor (wi : WI) (g : WG) (b : WS) (A : DEn) (ρ : Sl) (M : Mem) : (sFor wi g b).f A ρ M = (wi.f ρ M fun items stay M1 => loopF g b stay A items ρ M1) := rfl
theorem e_gN (i : Nat) (d : D) (ρ : Sl) (M : Mem) (Q : Sl → Mem → Prop) : (gN i).f d ρ M Q = (Q (ρ.set i (some d)) M) := rfl
theorem e_gsNil  (ds : List D) (ρ : Sl) (M : Mem) (Q : Sl → Mem → Prop) : (gsNil ).f ds ρ M Q = (ds = [] ∧ Q ρ M) := rfl
theorem e_gsCons (a : WG) (b : WGs) (ds : List D) (ρ : Sl) (M : Mem) (Q : Sl → Mem → Prop) : (gsCons a b).f ds ρ M Q = (∃ d es, ds = d :: es ∧ a.f d ρ M fun ρ1 M1 => b.f es ρ1 M1 Q) := rfl
theorem e_gT (t : WGs) (d : D) (ρ : Sl) (M : Mem) (Q : Sl → Mem → Prop) : (gT t).f d ρ M Q = (∃ xs, d = .tup xs ∧ xs.length = t.n ∧ t.f xs ρ M Q) := rfl
theorem e_gSubD (o i : WE) (x : D) (ρ : Sl) (M : Mem) (Q : Sl → Mem → Prop) : (gSubD o i).f x ρ M Q = (o.f ρ M fun d M1 => i.f ρ M1 fun e M2 => putF d e x M2 fun M3 => Q ρ M3) := rfl
theorem e_iSeq (e : WE) (ρ : Sl) (M : Mem) (Q : List D → (Mem → Prop) → Mem → Prop) : (iSeq e).f ρ M Q = (e.f ρ M fun d M1 => iSeqF d M1 Q) := rfl
theorem e_iR1 (t : WA) (ρ : Sl) (M : Mem) (Q : List D → (Mem → Prop) → Mem → Prop) : (iR1 t).f ρ M Q = (t.f ρ M fun ds M1 => ∃ j : Int, ds = [.int j] ∧ j < 2 ^ 62 ∧ -(2 ^ 62) ≤ j ∧ Q (rngD 0 j.toNat) (fun _ => True) M1) := rfl
theorem e_iR2 (t : WA) (ρ : Sl) (M : Mem) (Q : List D → (Mem → Prop) → Mem → Prop) : (iR2 t).f ρ M Q = (t.f ρ M fun ds M1 => r2F ds M1 Q) := rfl
theorem e_iEnumL (t : WA) (ρ : Sl) (M : Mem) (Q : List D → (Mem → Prop) → Mem → Prop) : (iEnumL t).f ρ M Q = (t.f ρ M fun ds M1 => ∃ a xs, ds = [.ref a] ∧ M1 a = some (.lst xs) ∧ Q (enumD 0 xs) (fun M => M a = some (.lst xs)) M1) := rfl
theorem e_iZipW (t : WA) (ρ : Sl) (M : Mem) (Q : List D → (Mem → Prop) → Mem → Prop) : (iZipW t).f ρ M Q = (t.f ρ M fun ds M1 => iZipF ds M1 Q) := rfl
theorem e_mAppend  (d : D) (ds : List D) (M : Mem) (Q : D → Mem → Prop) : (mAppend ).f d ds M Q = (∃ a xs y, d = .ref a ∧ ds = [y] ∧ M a = some (.lst xs) ∧ xs.length < sizeLine ∧ Q .non (mupd M a (.lst (xs ++ [y])))) := rfl
theorem e_mExtend  (d : D) (ds : List D) (M : Mem) (Q : D → Mem → Prop) : (mExtend ).f d ds M Q = (∃ a b xs ys, d = .ref a ∧ ds = [.ref b] ∧ M a = some (.lst xs) ∧ M b = some (.lst ys) ∧ xs.length + ys.length ≤ sizeLine ∧ Q .non (mupd M a (.lst (xs ++ ys)))) := rfl
theorem e_mIndex  (d : D) (ds : List D) (M : Mem) (Q : D → Mem → Prop) : (mIndex ).f d ds M Q = (∃ a xs y j, d = .ref a ∧ ds = [y] ∧ M a = some (.lst xs) ∧ D.pls xs ∧ y.pl ∧ min (D.deps xs) y.dep ≤ 60 ∧ (xs.findIdx? fun x => eqD x y) = some j ∧ Q (.int (j : Nat)) M) := rfl
theorem e_nLen  (ds : List D) (M : Mem) (Q : D → Mem → Prop) : (nLen ).f ds M Q = (∃ d, ds = [d] ∧ lenF d M fun n => Q (.int (n : Nat)) M) := rfl
theorem e_nTuple  (ds : List D) (M : Mem) (Q : D → Mem → Prop) : (nTuple ).f ds M Q = (∃ d, ds = [d] ∧ itemsF d M fun xs => Q (.tup xs) M) := rfl
theorem e_nList  (ds : List D) (M : Mem) (Q : D → Mem → Prop) : (nList ).f ds M Q = (∃ d, ds = [d] ∧ itemsF d M fun xs => ∀ p, M p = none → Q (.ref p) (mupd M p (.lst xs))) := rfl
theorem e_nBls (g : List Bool → Bool) (ds : List D) (M : Mem) (Q : D → Mem → Prop) : (nBls g).f ds M Q = (∃ a bs, ds = [.ref a] ∧ M a = some (.lst (bs.map D.bl)) ∧ Q (.bl (g bs)) M) := rfl
theorem e_rIx  (d : D) (e : D) (M : Mem) (Q : D → Mem → Prop) : (rIx ).f d e M Q = (ixF d e M fun x => Q x M) := rfl
theorem e_nSorted  (ds : List D) (M : Mem) (Q : D → Mem → Prop) : (nSorted ).f ds M Q = (∃ a xs, ds = [.ref a] ∧ M a = some (.lst xs) ∧ PySem.W.AllAlike (xs.map D.py) ∧ PySem.W.Sortable (xs.map D.py) ∧ (∀ x ∈ xs, x.pl ∧ x.dep ≤ 60) ∧ ∀ p, M p = none → Q (.ref p) (mupd M p (.lst (sortD xs)))) := rfl
theorem e_nBest (g : D → List D → D) (ds : List D) (M : Mem) (Q : D → Mem → Prop) : (nBest g).f ds M Q = (∃ d, ds = [d] ∧ itemsF d M fun xs => ∃ y ys, xs = y :: ys ∧ D.pls xs ∧ PySem.W.AlikeAll (D.pys xs) ∧ D.deps xs ≤ 60 ∧ Q (g y ys) M) := rfl
theorem e_kBestD (g : D → List D → D) (ds : List D) (es : List D) (M : Mem) (Q : D → Mem → Prop) : (kBestD g).f ds es M Q = (∃ d e, ds = [d] ∧ es = [e] ∧ itemsF d M fun xs => D.pls xs ∧ PySem.W.AlikeAll (D.pys xs) ∧ D.deps xs ≤ 60 ∧ Q (bestD g e xs) M) := rfl
theorem e_rAdd_int (i j : Int) (M : Mem) (Q : D → Mem → Prop) : rAdd.f (.int i) (.int j) M Q = (Q (.int (i + j)) M) := rfl
theorem e_rAdd_tup (i j : List D) (M : Mem) (Q : D → Mem → Prop) : rAdd.f (.tup i) (.tup j) M Q = (i.length + j.length ≤ sizeLine ∧ Q (.tup (i ++ j)) M) := rfl
theorem e_rAdd_str (i j : Str) (M : Mem) (Q : D → Mem → Prop) : rAdd.f (.str i) (.str j) M Q = (i.length + j.length ≤ sizeLine ∧ Q (.str (i ++ j)) M) := rfl
theorem e_rAdd_ref (a b : Addr) (M : Mem) (Q : D → Mem → Prop) : rAdd.f (.ref a) (.ref b) M Q = (∃ xs ys, M a = some (.lst xs) ∧ M b = some (.lst ys) ∧ xs.length + ys.length ≤ sizeLine ∧ ∀ p, M p = none → Q (.ref p) (mupd M p (.lst (xs ++ ys)))) := rfl
theorem e_rSub_int (i j : Int) (M : Mem) (Q : D → Mem → Prop) : rSub.f (.int i) (.int j) M Q = (Q (.int (i - j)) M) := rfl
theorem e_rMulA_int (i j : Int) (M : Mem) (Q : D → Mem → Prop) : rMulA.f (.int i) (.int j) M Q = (CMul i j ∧ Q (.int (i * j)) M) := rfl
theorem e_rMulA_tup (xs : List D) (k : Int) (M : Mem) (Q : D → Mem → Prop) : rMulA.f (.tup xs) (.int k) M Q = (-(2 ^ 63) ≤ k ∧ k ≤ 1000 ∧ xs.length ≤ 1000 ∧ Q (.tup (List.replicate k.toNat xs).flatten) M) := rfl
theorem e_rMulA_ref (a : Addr) (k : Int) (M : Mem) (Q : D → Mem → Prop) : rMulA.f (.ref a) (.int k) M Q = (∃ xs, M a = some (.lst xs) ∧ -(2 ^ 63) ≤ k ∧ k < 2 ^ 63 ∧ xs.length * k.toNat ≤ sizeLine ∧ ∀ p, M p = none → Q (.ref p) (mupd M p (.lst (List.replicate k.toNat xs).flatten))) := rfl
theorem e_rFdiv_int (i j : Int) (M : Mem) (Q : D → Mem → Prop) : rFdiv.f (.int i) (.int j) M Q = (CDiv i j ∧ Q (.int (i / j)) M) := rfl
theorem e_rMod_int (i j : Int) (M : Mem) (Q : D → Mem → Prop) : rMod.f (.int i) (.int j) M Q = (0 < j ∧ Q (.int (i % j)) M) := rfl
theorem e_rPow_int (i j : Int) (M : Mem) (Q : D → Mem → Prop) : rPow.f (.int i) (.int j) M Q = (CPow i j ∧ Q (.int (i ^ j.toNat)) M) := rfl
theorem e_rLe_int (i j : Int) (M : Mem) (Q : D → Mem → Prop) : rLe.f (.int i) (.int j) M Q = (Q (.bl (decide (i ≤ j))) M) := rfl
theorem e_rGt_int (i j : Int) (M : Mem) (Q : D → Mem → Prop) : rGt.f (.int i) (.int j) M Q = (Q (.bl (decide (j < i))) M) := rfl
theorem e_rGe_int (i j : Int) (M : Mem) (Q : D → Mem → Prop) : rGe.f (.int i) (.int j) M Q = (Q (.bl (decide (j ≤ i))) M) := rfl
theorem e_rLt_int (i j : Int) (M : Mem) (Q : D → Mem → Prop) : rLt.f (.int i) (.int j) M Q = (Q (.bl (decide (i < j))) M) := rfl
theorem e_rLt_tup (i j : List D) (M : Mem) (Q : D → Mem → Prop) : rLt.f (.tup i) (.tup j) M Q = (PySem.W.alike (D.tup i).py (D.tup j).py = true ∧ (D.tup i).py ≠ .none ∧ min (D.tup i).dep (D.tup j).dep ≤ 60 ∧ (D.tup i).pl ∧ (D.tup j).pl ∧ Q (.bl (ltD (.tup i) (.tup j))) M) := rfl
theorem e_rEqn_int (n : Bool) (i j : Int) (M : Mem) (Q : D → Mem → Prop) : (rEqn n).f (.int i) (.int j) M Q = (Q (.bl (xor n (decide (i = j)))) M) := rfl
theorem e_rEqn_str (n : Bool) (i j : Str) (M : Mem) (Q : D → Mem → Prop) : (rEqn n).f (.str i) (.str j) M Q = (Q (.bl (xor n (decide (i = j)))) M) := rfl
theorem e_rEqn_bl (n : Bool) (i j : Bool) (M : Mem) (Q : D → Mem → Prop) : (rEqn n).f (.bl i) (.bl j) M Q = (Q (.bl (xor n (i == j))) M) := rfl
theorem e_rEqn_tup (n : Bool) (i j : List D) (M : Mem) (Q : D → Mem → Prop) : (rEqn n).f (.tup i) (.tup j) M Q = ((D.tup i).pl ∧ (D.tup j).pl ∧ min (D.tup i).dep (D.tup j).dep ≤ 60 ∧ Q (.bl (xor n (eqD (.tup i) (.tup j)))) M) := rfl
theorem e_rEqn_ref (n : Bool) (a b : Addr) (M : Mem) (Q : D → Mem → Prop) : (rEqn n).f (.ref a) (.ref b) M Q = (∃ xs ys, M a = some (.lst xs) ∧ M b = some (.lst ys) ∧ D.pls xs ∧ D.pls ys ∧ min (D.deps xs) (D.deps ys) ≤ 60 ∧ Q (.bl (xor n (PyData.eqvAll (D.pys xs) (D.pys ys)))) M) := rfl
theorem e_rIsn_non (n : Bool) (d : D) (M : Mem) (Q : D → Mem → Prop) : (rIsn n).f d .non M Q = (Q (.bl (xor n d.isNon)) M) := rfl
theorem e_rIsn_bl (n : Bool) (a b : Bool) (M : Mem) (Q : D → Mem → Prop) : (rIsn n).f (.bl a) (.bl b) M Q = (Q (.bl (xor n (decide (a = b)))) M) := rfl
theorem e_rInn_tup (n : Bool) (d : D) (xs : List D) (M : Mem) (Q : D → Mem → Prop) : (rInn n).f d (.tup xs) M Q = (D.pls xs ∧ d.pl ∧ min (D.deps xs) d.dep ≤ 60 ∧ Q (.bl (xor n (xs.any fun x => eqD x d))) M) := rfl
theorem e_rNeg_int (i : Int) (M : Mem) (Q : D → Mem → Prop) : rNeg.f (.int i) M Q = (Q (.int (-i)) M) := rfl
theorem e_ix_tup (xs : List D) (i : Int) (M : Mem) (Q : D → Prop) : ixF (.tup xs) (.int i) M Q = (∃ x, atI xs i = some x ∧ Q x) := propext ⟨fun ⟨j, x, e, h⟩ => by cases e; exact ⟨x, h⟩, fun ⟨x, h⟩ => ⟨i, x, rfl, h⟩⟩
theorem e_ix_fl (xs : List D) (i : Int) (M : Mem) (Q : D → Prop) : ixF (.fl xs) (.int i) M Q = (∃ x, atI xs i = some x ∧ Q x) := propext ⟨fun ⟨j, x, e, h⟩ => by cases e; exact ⟨x, h⟩, fun ⟨x, h⟩ => ⟨i, x, rfl, h⟩⟩
theorem ix_lst {a : Addr} {xs : List D} {i : Int} {M : Mem} {Q : D → Prop} (h : M a = some (.lst xs)) : ixF (.ref a) (.int i) M Q = (∃ x, atI xs i = some x ∧ Q x) := propext ⟨fun z => by
  rcases z with ⟨ys, j, x, e1, e2, e3⟩ | ⟨ys, x, e1, _⟩
  · rw [h] at e1; cases e1; cases e2; exact ⟨x, e3⟩
  · rw [h] at e1; cases e1; done, fun ⟨x, z⟩ => .inl ⟨xs, i, x, h, rfl, z⟩⟩
theorem ix_dic {a : Addr} {kvs : List (D × D)} {k : D} {M : Mem} {Q : D → Prop} (h : M a = some (.dic kvs)) : ixF (.ref a) k M Q = (keyOk kvs k ∧ ∃ x, dgetD kvs k = some x ∧ Q x) := propext ⟨fun z => by
  rcases z with ⟨ys, j, x, e1, _⟩ | ⟨ys, x, e1, e2, e3, e4⟩
  · rw [h] at e1; cases e1; done
  · rw [h] at e1; cases e1; exact ⟨e2, x, e3, e4⟩, fun ⟨e2, x, z⟩ => .inr ⟨kvs, x, h, e2, z⟩⟩
theorem len_tup (xs : List D) (M : Mem) (Q : Nat → Prop) : lenF (.tup xs) M Q = Q xs.length := rfl
theorem len_fl (xs : List D) (M : Mem) (Q : Nat → Prop) : lenF (.fl xs) M Q = Q xs.length := rfl
theorem len_lst {a : Addr} {xs : List D} {M : Mem} {Q : Nat → Prop} (h : M a = some (.lst xs)) : lenF (.ref a) M Q = Q xs.length := propext ⟨fun z => by
  rcases z with ⟨ys, e1, q⟩ | ⟨ys, e1, _⟩
  · rw [h] at e1; cases e1; exact q
  · rw [h] at e1; cases e1; done, fun z => .inl ⟨xs, h, z⟩⟩
theorem items_tup (xs : List D) (M : Mem) (Q : List D → Prop) : itemsF (.tup xs) M Q = Q xs := rfl
theorem items_fl (xs : List D) (M : Mem) (Q : List D → Prop) : itemsF (.fl xs) M Q = Q xs := rfl
theorem items_lst {a : Addr} {xs : List D} {M : Mem} {Q : List D → Prop} (h : M a = some (.lst xs)) : itemsF (.ref a) M Q = Q xs := propext ⟨fun ⟨ys, e1, q⟩ => by rw [h] at e1; cases e1; exact q, fun z => ⟨xs, h, z⟩⟩
theorem iseq_tup (xs : List D) (M : Mem) (Q : List D → (Mem → Prop) → Mem → Prop) : iSeqF (.tup xs) M Q = Q xs (fun _ => True) M := rfl
theorem iseq_fl (xs : List D) (M : Mem) (Q : List D → (Mem → Prop) → Mem → Prop) : iSeqF (.fl xs) M Q = Q xs (fun _ => True) M := rfl
theorem iseq_lst {a : Addr} {xs : List D} {M : Mem} {Q : List D → (Mem → Prop) → Mem → Prop} (h : M a = some (.lst xs)) : iSeqF (.ref a) M Q = Q xs (fun M => M a = some (.lst xs)) M := propext ⟨fun ⟨ys, e1, q⟩ => by rw [h] at e1; cases e1; exact q, fun z => ⟨xs, h, z⟩⟩
theorem ty_lst {a : Addr} {xs : List D} {M : Mem} (h : M a = some (.lst xs)) : tyD "list" (.ref a) M = True := eq_true (.inl ⟨rfl, xs, h⟩)
theorem put_lst {a : Addr} {xs : List D} {k : Int} {x : D} {M : Mem} {Q : Mem → Prop} (h : M a = some (.lst xs)) : putF (.ref a) (.int k) x M Q = (∃ j, ixN xs.length k = some j ∧ Q (mupd M a (.lst (xs.set j x)))) := propext ⟨fun z => by
  rcases z with ⟨ys, i, j, e1, e2, e3⟩ | ⟨ys, e1, _⟩
  · rw [h] at e1; cases e1; cases e2; exact ⟨j, e3⟩
  · rw [h] at e1; cases e1; done, fun ⟨j, z⟩ => .inl ⟨xs, k, j, h, rfl, z⟩⟩
theorem in_lst {n : Bool} {d : D} {a : Addr} {xs : List D} {M : Mem} {Q : D → Mem → Prop} (h : M a = some (.lst xs)) : (rInn n).f d (.ref a) M Q = (D.pls xs ∧ d.pl ∧ min (D.deps xs) d.dep ≤ 60 ∧ Q (.bl (xor n (xs.any fun x => eqD x d))) M) := propext ⟨fun z => by
  rcases z with ⟨ys, e1, q⟩ | ⟨ys, e1, _⟩
  · rw [h] at e1; cases e1; exact q
  · rw [h] at e1; cases e1; done, fun z => .inl ⟨xs, h, z⟩⟩
theorem in_dic {n : Bool} {d : D} {a : Addr} {kvs : List (D × D)} {M : Mem} {Q : D → Mem → Prop} (h : M a = some (.dic kvs)) : (rInn n).f d (.ref a) M Q = (keyOk kvs d ∧ Q (.bl (xor n (dgetD kvs d).isSome)) M) := propext ⟨fun z => by
  rcases z with ⟨ys, e1, _⟩ | ⟨ys, e1, q⟩
  · rw [h] at e1; cases e1; done
  · rw [h] at e1; cases e1; exact q, fun z => .inr ⟨kvs, h, z⟩⟩
theorem e_nInt_int (i : Int) (M : Mem) (Q : D → Mem → Prop) : nInt.f [.int i] M Q = Q (.int i) M := rfl
theorem e_nInt_bl (b : Bool) (M : Mem) (Q : D → Mem → Prop) : nInt.f [.bl b] M Q = Q (.int (if b = true then 1 else 0)) M := rfl
theorem tru_lst {a : Addr} {xs : List D} {M : Mem} {Q : Bool → Prop} (h : M a = some (.lst xs)) : truF (.ref a) M Q = Q (!xs.isEmpty) := propext ⟨fun z => by
  rcases z with ⟨ys, e1, q⟩ | ⟨ys, e1, _⟩
  · rw [h] at e1; cases e1; exact q
  · rw [h] at e1; cases e1; done, fun z => .inl ⟨xs, h, z⟩⟩
theorem e_nInt1_int (g : Int → D) (i : Int) (M : Mem) (Q : D → Mem → Prop) : (nInt1 g).f [.int i] M Q = Q (g i) M := propext ⟨fun ⟨j, e, q⟩ => by cases e; exact q, fun q => ⟨i, rfl, q⟩⟩
theorem e_nInt2_int (g : Int → Int → D) (i j : Int) (M : Mem) (Q : D → Mem → Prop) : (nInt2 g).f [.int i, .int j] M Q = Q (g i j) M := propext ⟨fun ⟨a, b, e, q⟩ => by cases e; exact q, fun q => ⟨i, j, rfl, q⟩⟩
theorem e_nIsi_2 (d : D) (u : String) (M : Mem) (Q : D → Mem → Prop) : nIsi.f [d, .ty u] M Q = (∃ t b, tyName d M = some t ∧ kitB2 t u = some b ∧ Q (.bl b) M) := propext ⟨fun ⟨a, b, t, c, e, q⟩ => by cases e; exact ⟨t, c, q⟩, fun ⟨t, b, q⟩ => ⟨d, u, t, b, rfl, q⟩⟩
theorem e_r2F (i j : Int) (M : Mem) (Q : List D → (Mem → Prop) → Mem → Prop) : r2F [.int i, .int j] M Q = ((-(2 ^ 62) ≤ i ∧ i < 2 ^ 62 ∧ -(2 ^ 62) ≤ j ∧ j < 2 ^ 62) ∧ Q (rngD i (j - i).toNat) (fun _ => True) M) := propext ⟨fun ⟨a, b, e, q⟩ => by cases e; exact q, fun q => ⟨i, j, rfl, q⟩⟩
theorem e_tru_bl (b : Bool) (M : Mem) (Q : Bool → Prop) : truF (.bl b) M Q = Q b := rfl
theorem e_tru_int (i : Int) (M : Mem) (Q : Bool → Prop) : truF (.int i) M Q = Q (i != 0) := rfl
theorem e_tru_tup (xs : List D) (M : Mem) (Q : Bool → Prop) : truF (.tup xs) M Q = Q (!xs.isEmpty) := rfl
theorem tn_int (i : Int) (M : Mem) : tyName (.int i) M = some "int" := rfl
theorem tn_bl (i : Bool) (M : Mem) : tyName (.bl i) M = some "bool" := rfl
theorem tn_str (i : Str) (M : Mem) : tyName (.str i) M = some "str" := rfl
theorem tn_non (M : Mem) : tyName .non M = some "NoneType" := rfl
theorem tn_tup (xs : List D) (M : Mem) : tyName (.tup xs) M = some "tuple" := rfl
theorem tn_fl (xs : List D) (M : Mem) : tyName (.fl xs) M = some "list" := rfl
theorem tn_lst {a : Addr} {xs : List D} {M : Mem} (h : M a = some (.lst xs)) : tyName (.ref a) M = some "list" := by simp only [tyName, h]
theorem kb_int_int : kitB2 "int" "int" = some true := by decide
theorem kb_int_bool : kitB2 "int" "bool" = some false := by decide
theorem kb_int_str : kitB2 "int" "str" = some false := by decide
theorem kb_int_tuple : kitB2 "int" "tuple" = some false := by decide
theorem kb_int_list : kitB2 "int" "list" = some false := by decide
theorem kb_bool_int : kitB2 "bool" "int" = some true := by decide
theorem kb_bool_bool : kitB2 "bool" "bool" = some true := by decide
theorem kb_bool_str : kitB2 "bool" "str" = some false := by decide
theorem kb_bool_tuple : kitB2 "bool" "tuple" = some false := by decide
theorem kb_bool_list : kitB2 "bool" "list" = some false := by decide
theorem kb_str_int : kitB2 "str" "int" = some false := by decide
theorem kb_str_bool : kitB2 "str" "bool" = some false := by decide
theorem kb_str_str : kitB2 "str" "str" = some true := by decide
theorem kb_str_tuple : kitB2 "str" "tuple" = some false := by decide
theorem kb_str_list : kitB2 "str" "list" = some false := by decide
theorem kb_NoneType_int : kitB2 "NoneType" "int" = some false := by decide
theorem kb_NoneType_bool : kitB2 "NoneType" "bool" = some false := by decide
theorem kb_NoneType_str : kitB2 "NoneType" "str" = some false := by decide
theorem kb_NoneType_tuple : kitB2 "NoneType" "tuple" = some false := by decide
theorem kb_NoneType_list : kitB2 "NoneType" "list" = some false := by decide
theorem kb_tuple_int : kitB2 "tuple" "int" = some false := by decide
theorem kb_tuple_bool : kitB2 "tuple" "bool" = some false := by decide
theorem kb_tuple_str : kitB2 "tuple" "str" = some false := by decide
theorem kb_tuple_tuple : kitB2 "tuple" "tuple" = some true := by decide
theorem kb_tuple_list : kitB2 "tuple" "list" = some false := by decide
theorem kb_list_int : kitB2 "list" "int" = some false := by decide
theorem kb_list_bool : kitB2 "list" "bool" = some false := by decide
theorem kb_list_str : kitB2 "list" "str" = some false := by decide
theorem kb_list_tuple : kitB2 "list" "tuple" = some false := by decide
theorem kb_list_list : kitB2 "list" "list" = some true := by decide
theorem s_at0 {α : Type} (x : α) (xs : List α) : atI (x :: xs) 0 = some x := atI_nat (xs := x :: xs) (j := 0) rfl
theorem s_at1 {α : Type} (x y : α) (xs : List α) : atI (x :: y :: xs) 1 = some y := atI_nat (xs := x :: y :: xs) (j := 1) rfl
theorem s_at2 {α : Type} (x y z : α) (xs : List α) : atI (x :: y :: z :: xs) 2 = some z := atI_nat (xs := x :: y :: z :: xs) (j := 2) rfl
theorem s_at3 {α : Type} (x y z u : α) (xs : List α) : atI (x :: y :: z :: u :: xs) 3 = some u := atI_nat (xs := x :: y :: z :: u :: xs) (j := 3) rfl
theorem s_at4 {α : Type} (x y z u v : α) (xs : List α) : atI (x :: y :: z :: u :: v :: xs) 4 = some v := atI_nat (xs := x :: y :: z :: u :: v :: xs) (j := 4) rfl
theorem cdiv_lit {i : Int} {j : Int} (h : 0 < j ∧ j < 1073741824 := by decide) : CDiv i j := h
theorem cmul_r {i j : Int} (h : -(2 ^ 64) < j ∧ j < 2 ^ 64) : CMul i j := .inr h
theorem cmul_l {i j : Int} (h : -(2 ^ 64) < i ∧ i < 2 ^ 64) : CMul i j := .inl h
theorem s_ex2 {α β : Type} (a : α) (b : β) (P : α → β → Prop) : (∃ d e, (a = d ∧ b = e) ∧ P d e) = P a b := propext ⟨fun ⟨_, _, ⟨rfl, rfl⟩, h⟩ => h, fun h => ⟨a, b, ⟨rfl, rfl⟩, h⟩⟩
end MP

namespace MP
open PySem PySem.Spec PyProof.Rows L2

/-! ### promises -/
/-- everything that M tells is still so -/
def Sub (M M' : Mem) : Prop := ∀ a o, M a = some o → M' a = some o
theorem Sub.refl {M : Mem} : Sub M M := fun _ _ h => h
theorem Sub.trans {M M1 M2 : Mem} (a : Sub M M1) (b : Sub M1 M2) : Sub M M2 := fun c o h => b c o (a c o h)
theorem Sub.upd {M M1 : Mem} {p : Addr} {o : MO} (s : Sub M M1) (h : M p = none) : Sub M (mupd M1 p o) := fun a u e => by
  rw [mupd_ne (fun z => by rw [z, h] at e; cases e)]; exact s a u e
theorem Sub.new {M : Mem} {p : Addr} {o : MO} (h : M p = none) : Sub M (mupd M p o) := Sub.refl.upd h
theorem Sub.none {M M1 : Mem} {p : Addr} (s : Sub M M1) (h : M1 p = none) : M p = none := by
  cases e : M p with
  | none => rfl
  | some o => rw [s p o e] at h; cases h
theorem Sub.ne {M : Mem} {a p : Addr} {o : MO} (h : M a = some o) (hp : M p = Option.none) : a ≠ p := fun z => by rw [z, hp] at h; cases h
/-- the pools that M knows stand with their parts -/
def Cons (M : Mem) : Prop := ∀ a r c n, M a = some (.pool r c n) → (M r = some (.sub a) ∧ M c = some (.sub a)) ∧ r ≠ a ∧ c ≠ a ∧ r ≠ c
/-- one object told more weakly: of a pool, that it was asked at most so often -/
def LeO (u o : MO) : Prop := u = o ∨ ∃ r c n m, u = .pool r c n ∧ o = .pool r c m ∧ n ≤ m
/-- M' tells all that M tells -/
def Wk (M M' : Mem) : Prop := ∀ a o, M a = some o → ∃ u, M' a = some u ∧ LeO u o
theorem Sub.wk {M M' : Mem} (s : Sub M M') : Wk M M' := fun a o h => ⟨o, s a o h, .inl rfl⟩
section
variable {P : Program} {w : World} {K : PySem.W.Frag} {H : Hp} {M M' : Mem}
theorem RelM.cons (rm : RelM P w K H M) : Cons M := fun a r c n h => by
  obtain ⟨ns, t, e, er, ec, h1, h2, h3, h4, h5, h6, h7, h8⟩ := rm a _ h
  exact ⟨⟨h7, h8⟩, h4, h5, h6⟩
theorem Vw.wk (cn : Cons M) (s : Wk M M') : Vw P w K M' M := by
  refine ⟨fun a h => ?_, fun H rm a o h => ?_⟩
  · cases e : M a with
    | none => rfl
    | some o => obtain ⟨u, hu, _⟩ := s a o e; rw [h] at hu; cases hu
  · obtain ⟨u, hu, le⟩ := s a o h
    have q := rm a u hu
    rcases le with rfl | ⟨r, c, n, m, rfl, rfl, hl⟩
    · cases u with
      | pool r' c' n' =>
        obtain ⟨ns, t, e, er, ec, h1, h2, h3, h4, h5, h6, h7, h8⟩ := q
        exact ⟨ns, t, e, er, ec, h1, h2, h3, h4, h5, h6, (cn a r' c' n' h).1.1, (cn a r' c' n' h).1.2⟩
      | lst ds => exact q
      | dic kvs => exact q
      | ins C fs => exact q
      | sub q' => exact q
    · obtain ⟨ns, t, e, er, ec, h1, h2, h3, h4, h5, h6, h7, h8⟩ := q
      exact ⟨ns, t, e, er, ec, h1, h2, ⟨h3.1, by omega⟩, h4, h5, h6, (cn a r c m h).1.1, (cn a r c m h).1.2⟩
theorem Vw.sub (c : Cons M) (s : Sub M M') : Vw P w K M' M := Vw.wk c s.wk
/-- a new object beside -/
theorem Cons.new (c : Cons M) {p : Addr} {o : MO} (hp : M p = none) (hn : ∀ r c n, o ≠ .pool r c n) : Cons (mupd M p o) := fun a r d n h => by
  by_cases ha : a = p
  · subst ha; rw [mupd_same] at h; cases h; exact absurd rfl (hn r d n)
  · rw [mupd_ne ha] at h
    obtain ⟨⟨h1, h2⟩, h3⟩ := c a r d n h
    exact ⟨⟨(Sub.new hp) _ _ h1, (Sub.new hp) _ _ h2⟩, h3⟩
theorem Vw.new (c : Cons M) (s : Sub M M') {p : Addr} {o : MO} (hp : M p = none) (h : M' p = some o) (hn : ∀ r c n, o ≠ .pool r c n) : Vw P w K M' (mupd M p o) := by
  refine Vw.wk (c.new hp hn) (Sub.wk fun a u e => ?_)
  by_cases ha : a = p
  · subst ha; rw [mupd_same] at e; cases e; exact h
  · rw [mupd_ne ha] at e; exact s a u e
end
/-- M' is M, but for new objects and what the pool at p was asked: b times at most in all -/
def DrS (p r c : Addr) (b : Nat) (M M' : Mem) : Prop := (∃ m, m ≤ b ∧ M' p = some (.pool r c m)) ∧ ∀ a o, a ≠ p → M a = some o → M' a = some o
theorem DrS.refl {p r c : Addr} {n : Nat} {M : Mem} (h : M p = some (.pool r c n)) : DrS p r c n M M := ⟨⟨n, Nat.le_refl _, h⟩, fun _ _ _ h => h⟩
theorem DrS.le {p r c : Addr} {b b' : Nat} {M M' : Mem} (d : DrS p r c b M M') (h : b ≤ b') : DrS p r c b' M M' := ⟨let ⟨m, h1, h2⟩ := d.1; ⟨m, by omega, h2⟩, d.2⟩
theorem DrS.trans {p r c : Addr} {b b' : Nat} {M M1 M2 : Mem} (d : DrS p r c b M M1) (e : DrS p r c b' M1 M2) : DrS p r c b' M M2 := ⟨e.1, fun a o ha h => e.2 a o ha (d.2 a o ha h)⟩
theorem DrS.sub {p r c : Addr} {b : Nat} {M M1 M2 : Mem} (d : DrS p r c b M M1) (s : Sub M1 M2) : DrS p r c b M M2 := ⟨let ⟨m, h1, h2⟩ := d.1; ⟨m, h1, s _ _ h2⟩, fun a o ha h => s a o (d.2 a o ha h)⟩
theorem DrS.ask {p r c : Addr} {b m k : Nat} {M M1 : Mem} (d : DrS p r c b M M1) (h : M1 p = some (.pool r c m)) : DrS p r c (b + k) M (mupd M1 p (.pool r c (m + k))) := by
  obtain ⟨m', h1, h2⟩ := d.1
  rw [h] at h2; cases h2
  exact ⟨⟨m + k, by omega, mupd_same⟩, fun a o ha h => by rw [mupd_ne ha]; exact d.2 a o ha h⟩
theorem DrS.upd {p r c a : Addr} {b : Nat} {M M1 : Mem} {o : MO} (d : DrS p r c b M M1) (h : M a = none) (hp : M p ≠ none) : DrS p r c b M (mupd M1 a o) := by
  have ne : p ≠ a := fun z => hp (by rw [z]; exact h)
  exact ⟨let ⟨m, h1, h2⟩ := d.1; ⟨m, h1, by rw [mupd_ne ne]; exact h2⟩, fun x u hx e => by rw [mupd_ne (fun z => by rw [z, h] at e; cases e)]; exact d.2 x u hx e⟩
theorem DrS.wk {p r c : Addr} {n k : Nat} {M M' : Mem} (d : DrS p r c (n + k) M M') : Wk (mupd M p (.pool r c (n + k))) M' := fun a o h => by
  by_cases ha : a = p
  · subst ha; rw [mupd_same] at h; cases h
    obtain ⟨m, h1, h2⟩ := d.1
    exact ⟨_, h2, .inr ⟨r, c, m, n + k, rfl, rfl, h1⟩⟩
  · rw [mupd_ne ha] at h
    exact ⟨o, d.2 a o ha h, .inl rfl⟩
theorem Cons.ask {p r c : Addr} {n m : Nat} {M : Mem} (cn : Cons M) (h : M p = some (.pool r c n)) : Cons (mupd M p (.pool r c m)) := fun a r' c' n' e => by
  obtain ⟨⟨k1, k2⟩, k3, k4, k5⟩ := cn p r c n h
  by_cases ha : a = p
  · subst ha; rw [mupd_same] at e; cases e
    exact ⟨⟨by rw [mupd_ne k3]; exact k1, by rw [mupd_ne k4]; exact k2⟩, k3, k4, k5⟩
  · rw [mupd_ne ha] at e
    obtain ⟨⟨j1, j2⟩, j3⟩ := cn a r' c' n' e
    refine ⟨⟨?_, ?_⟩, j3⟩
    · rw [mupd_ne (fun z => by rw [z, h] at j1; cases j1)]; exact j1
    · rw [mupd_ne (fun z => by rw [z, h] at j2; cases j2)]; exact j2
/-- a def that asks the pool (its first argument) at most k times -/
def nDr (k : Nat) (C : List D → Mem → Prop) (g : List D → Mem → D → Prop) : WN := ⟨fun ds M Q => ∃ p r c n rest, ds = .ref p :: rest ∧ M p = some (.pool r c n) ∧ n + k ≤ 1000000000 ∧ C ds M ∧ ∀ d, g ds M d → Q d (mupd M p (.pool r c (n + k))),
  fun _ _ _ _ h ⟨p, r, c, n, rest, e1, e2, e3, e4, q⟩ => ⟨p, r, c, n, rest, e1, e2, e3, e4, fun d hd => h _ _ (q d hd)⟩⟩
theorem dr_pool {k : Nat} {C : List D → Mem → Prop} {g : List D → Mem → D → Prop} {p r c : Addr} {n : Nat} {rest : List D} {M : Mem} {Q : D → Mem → Prop} (h : M p = some (.pool r c n)) :
    (nDr k C g).f (.ref p :: rest) M Q = (n + k ≤ 1000000000 ∧ C (.ref p :: rest) M ∧ ∀ d, g (.ref p :: rest) M d → Q d (mupd M p (.pool r c (n + k)))) := propext ⟨fun ⟨p', r', c', n', rest', e1, e2, e3, e4, q⟩ => by
  cases e1
  rw [h] at e2; cases e2
  exact ⟨e3, e4, q⟩, fun ⟨e3, e4, q⟩ => ⟨p, r, c, n, rest, rfl, h, e3, e4, q⟩⟩
/-- a def that changes nothing: C what its arguments must be, g what it gives back -/
def nPure (C : List D → Mem → Prop) (g : List D → Mem → D) : WN := ⟨fun ds M Q => C ds M ∧ Q (g ds M) M, fun _ _ _ _ h q => ⟨q.1, h _ _ q.2⟩⟩
/-- a def that gives back a new object -/
def nNew (C : List D → Mem → Prop) (g : List D → Mem → MO) : WN := ⟨fun ds M Q => C ds M ∧ ∀ p, M p = none → Q (.ref p) (mupd M p (g ds M)), fun _ _ _ _ h q => ⟨q.1, fun p hp => h _ _ (q.2 p hp)⟩⟩
/-- a def that changes nothing and gives back some datum of these -/
def nSome (C : List D → Mem → Prop) (g : List D → Mem → D → Prop) : WN := ⟨fun ds M Q => C ds M ∧ ∀ d, g ds M d → Q d M, fun _ _ _ _ h q => ⟨q.1, fun d hd => h _ _ (q.2 d hd)⟩⟩
theorem e_nPure (C : List D → Mem → Prop) (g : List D → Mem → D) (ds : List D) (M : Mem) (Q : D → Mem → Prop) : (nPure C g).f ds M Q = (C ds M ∧ Q (g ds M) M) := rfl
theorem e_nNew (C : List D → Mem → Prop) (g : List D → Mem → MO) (ds : List D) (M : Mem) (Q : D → Mem → Prop) : (nNew C g).f ds M Q = (C ds M ∧ ∀ p, M p = none → Q (.ref p) (mupd M p (g ds M))) := rfl
theorem e_nSome (C : List D → Mem → Prop) (g : List D → Mem → D → Prop) (ds : List D) (M : Mem) (Q : D → Mem → Prop) : (nSome C g).f ds M Q = (C ds M ∧ ∀ d, g ds M d → Q d M) := rfl
/-- what a def ends with -/
def RPure (x : D) (M : Mem) : D → Mem → Prop := fun d M' => d = x ∧ Sub M M'
def RSome (g : D → Prop) (M : Mem) : D → Mem → Prop := fun d M' => g d ∧ Sub M M'
def RNew (g : MO → Prop) (M : Mem) : D → Mem → Prop := fun d M' => ∃ p o, d = .ref p ∧ g o ∧ M p = none ∧ M' p = some o ∧ Sub M M'
def RDr (g : D → Prop) (p r c : Addr) (b : Nat) (M : Mem) : D → Mem → Prop := fun d M' => g d ∧ DrS p r c b M M'
/-- a def's end: what it gives back -/
def rtE (R : D → Mem → Prop) : DEn := { nx := fun _ M' => R .non M', rt := R }
theorem law_pure {n k : Nat} {b : WS} {C : List D → Mem → Prop} {g : List D → Mem → D} (h : ∀ ds M, Cons M → C ds M → ds.length = k ∧ ∀ R : D → Mem → Prop, (∀ M', Sub M M' → R (g ds M) M') → b.f (rtE R) (startD n ds) M) : FnLaw n k b (nPure C g) := fun P w K H ds M Q rm ⟨c, q⟩ => by
  obtain ⟨h1, h2⟩ := h ds M rm.cons c
  refine ⟨h1, M, rm, fun _ z => z, ?_⟩
  refine b.mono (rtE _) _ _ _ ?_ (h2 (RPure (g ds M) M) fun M' s => ⟨rfl, s⟩)
  refine ⟨fun _ M' z => ?_, fun d M' z => ?_, fun _ _ z => z, fun _ _ z => z⟩
  · exact ⟨M, Vw.sub rm.cons z.2, by rw [z.1]; exact q⟩
  · exact ⟨M, Vw.sub rm.cons z.2, by rw [z.1]; exact q⟩
theorem law_some {n k : Nat} {b : WS} {C : List D → Mem → Prop} {g : List D → Mem → D → Prop} (h : ∀ ds M, Cons M → C ds M → ds.length = k ∧ ∀ R : D → Mem → Prop, (∀ d M', g ds M d → Sub M M' → R d M') → b.f (rtE R) (startD n ds) M) : FnLaw n k b (nSome C g) := fun P w K H ds M Q rm ⟨c, q⟩ => by
  obtain ⟨h1, h2⟩ := h ds M rm.cons c
  refine ⟨h1, M, rm, fun _ z => z, ?_⟩
  refine b.mono (rtE _) _ _ _ ?_ (h2 (RSome (g ds M) M) fun d M' a s => ⟨a, s⟩)
  refine ⟨fun _ M' z => ?_, fun d M' z => ?_, fun _ _ z => z, fun _ _ z => z⟩
  · exact ⟨M, Vw.sub rm.cons z.2, q _ z.1⟩
  · exact ⟨M, Vw.sub rm.cons z.2, q _ z.1⟩
theorem law_new {n k : Nat} {b : WS} {C : List D → Mem → Prop} {g : List D → Mem → MO} (hn : ∀ ds M r c n, g ds M ≠ .pool r c n) (h : ∀ ds M, Cons M → C ds M → ds.length = k ∧ ∀ R : D → Mem → Prop, (∀ p M', M p = none → M' p = some (g ds M) → Sub M M' → R (.ref p) M') → b.f (rtE R) (startD n ds) M) : FnLaw n k b (nNew C g) := fun P w K H ds M Q rm ⟨c, q⟩ => by
  obtain ⟨h1, h2⟩ := h ds M rm.cons c
  refine ⟨h1, M, rm, fun _ z => z, ?_⟩
  refine b.mono (rtE _) _ _ _ ?_ (h2 (RNew (· = g ds M) M) fun p M' a b s => ⟨p, _, rfl, rfl, a, b, s⟩)
  refine ⟨fun _ M' z => ?_, fun d M' z => ?_, fun _ _ z => z, fun _ _ z => z⟩
  · obtain ⟨p, o, e, _⟩ := z; cases e
  · obtain ⟨p, o, e, e0, e1, e2, s⟩ := z
    subst e
    cases e0
    exact ⟨_, Vw.new rm.cons s e1 e2 (hn ds M), q p e1⟩
theorem law_dr {n k kk : Nat} {b : WS} {C : List D → Mem → Prop} {g : List D → Mem → D → Prop} (h : ∀ p r c m rest M, Cons M → M p = some (.pool r c m) → m + k ≤ 1000000000 → C (.ref p :: rest) M → (D.ref p :: rest).length = kk ∧ ∀ R : D → Mem → Prop, (∀ d M', g (.ref p :: rest) M d → DrS p r c (m + k) M M' → R d M') → b.f (rtE R) (startD n (.ref p :: rest)) M) : FnLaw n kk b (nDr k C g) := fun P w K H ds M Q rm ⟨p, r, c, m, rest, e1, e2, e3, e4, q⟩ => by
  subst e1
  obtain ⟨h1, h2⟩ := h p r c m rest M rm.cons e2 e3 e4
  refine ⟨h1, M, rm, fun _ z => z, ?_⟩
  refine b.mono (rtE _) _ _ _ ?_ (h2 (RDr (g (.ref p :: rest) M) p r c (m + k) M) fun d M' a s => ⟨a, s⟩)
  refine ⟨fun _ M' z => ?_, fun d M' z => ?_, fun _ _ z => z, fun _ _ z => z⟩
  · exact ⟨_, Vw.wk (rm.cons.ask e2) z.2.wk, q _ z.1⟩
  · exact ⟨_, Vw.wk (rm.cons.ask e2) z.2.wk, q _ z.1⟩

/-! ### loops -/
/-- over the items that are left. In a turn the invariant that is to be reached is told by a letter I (so that no tactic takes it apart): mk makes it -/
theorem loop_rest {g : WG} {b : WS} {stay : Mem → Prop} {A : DEn} (Iv : List D → Sl → Mem → Prop) (step : ∀ (I : List D → Sl → Mem → Prop), (∀ xs ρ M, Iv xs ρ M → I xs ρ M) → ∀ x xs ρ M, Iv (x :: xs) ρ M → stay M ∧ g.f x ρ M fun ρ2 M2 => b.f { A with nx := I xs, ct := I xs, bk := A.nx } ρ2 M2) (fin : ∀ ρ M, Iv [] ρ M → stay M ∧ A.nx ρ M) :
    ∀ (xs : List D) (ρ : Sl) (M : Mem), Iv xs ρ M → loopF g b stay A xs ρ M
  | [], ρ, M, h => fin ρ M h
  | x :: xs, ρ, M, h => by
    obtain ⟨h1, h2⟩ := step Iv (fun _ _ _ z => z) x xs ρ M h
    exact ⟨h1, g.mono _ _ _ _ _ (fun ρ2 M2 q => b.mono { A with nx := Iv xs, ct := Iv xs, bk := A.nx } { A with nx := loopF g b stay A xs, ct := loopF g b stay A xs, bk := A.nx } ρ2 M2 ⟨loop_rest Iv step fin xs, fun _ _ z => z, fun _ _ z => z, loop_rest Iv step fin xs⟩ q) h2⟩
/-- by the items that are done -/
theorem loop_done {g : WG} {b : WS} {stay : Mem → Prop} {A : DEn} (items : List D) (Iv : List D → Sl → Mem → Prop) (step : ∀ (I : List D → Sl → Mem → Prop), (∀ xs ρ M, Iv xs ρ M → I xs ρ M) → ∀ pre x post ρ M, items = pre ++ x :: post → Iv pre ρ M → stay M ∧ g.f x ρ M fun ρ2 M2 => b.f { A with nx := I (pre ++ [x]), ct := I (pre ++ [x]), bk := A.nx } ρ2 M2)
    (fin : ∀ ρ M, Iv items ρ M → stay M ∧ A.nx ρ M) (ρ : Sl) (M : Mem) (h : Iv [] ρ M) : loopF g b stay A items ρ M := by
  refine loop_rest (fun xs ρ M => ∃ pre, items = pre ++ xs ∧ Iv pre ρ M) (fun I mk x xs ρ M ⟨pre, e, h⟩ => ?_) (fun ρ M ⟨pre, e, h⟩ => ?_) items ρ M ⟨[], rfl, h⟩
  · obtain ⟨h1, h2⟩ := step Iv (fun _ _ _ z => z) pre x xs ρ M e h
    refine ⟨h1, g.mono _ _ _ _ _ (fun ρ2 M2 q => b.mono { A with nx := Iv (pre ++ [x]), ct := Iv (pre ++ [x]), bk := A.nx } _ ρ2 M2 ⟨fun ρ3 M3 q3 => ?_, fun _ _ z => z, fun _ _ z => z, fun ρ3 M3 q3 => ?_⟩ q) h2⟩
    · exact mk _ _ _ ⟨pre ++ [x], by rw [e]; simp, q3⟩
    · exact mk _ _ _ ⟨pre ++ [x], by rw [e]; simp, q3⟩
  · rw [List.append_nil] at e
    subst e
    exact fin ρ M h
/-- a range, by the number of turns -/
theorem loop_rng {g : WG} {b : WS} {A : DEn} {lo : Int} {n : Nat} (Iv : Nat → Sl → Mem → Prop) (step : ∀ (I : Nat → Sl → Mem → Prop), (∀ i ρ M, Iv i ρ M → I i ρ M) → ∀ i ρ M, i < n → Iv i ρ M → g.f (.int (lo + (i : Nat))) ρ M fun ρ2 M2 => b.f { A with nx := I (i + 1), ct := I (i + 1), bk := A.nx } ρ2 M2) (fin : ∀ ρ M, Iv n ρ M → A.nx ρ M) (ρ : Sl) (M : Mem) (h : Iv 0 ρ M) :
    loopF g b (fun _ => True) A (rngD lo n) ρ M := by
  have hl : (rngD lo n).length = n := by simp [rngD]
  refine loop_done (rngD lo n) (fun pre ρ M => Iv pre.length ρ M) (fun I mk pre x post ρ M e h => ?_) (fun ρ M h => ?_) ρ M h
  · have hx : (rngD lo n)[pre.length]? = some x := by rw [e]; simp
    obtain ⟨hi, ex⟩ := rngD_get hx
    subst ex
    refine ⟨trivial, g.mono _ _ _ _ _ (fun ρ2 M2 q => b.mono { A with nx := Iv (pre.length + 1), ct := Iv (pre.length + 1), bk := A.nx } _ ρ2 M2 ⟨fun ρ3 M3 q3 => ?_, fun _ _ z => z, fun _ _ z => z, fun ρ3 M3 q3 => ?_⟩ q) (step Iv (fun _ _ _ z => z) pre.length ρ M hi h)⟩
    · exact mk _ _ _ (by simp only [List.length_append, List.length_cons, List.length_nil]; exact q3)
    · exact mk _ _ _ (by simp only [List.length_append, List.length_cons, List.length_nil]; exact q3)
  · rw [hl] at h
    exact ⟨trivial, fin ρ M h⟩
/-- while, by a measure -/
theorem while_of {c : WT} {b : WS} {A : DEn} {ρ : Sl} {M : Mem} (W : Nat → Sl → Mem → Prop) (h0 : ∃ m, W m ρ M) (step : ∀ (I : Nat → Sl → Mem → Prop), (∀ m m' ρ M, m' < m → W m' ρ M → I m ρ M) → ∀ m ρ M, W m ρ M → c.f ρ M fun k M1 =>
    (k = true → b.f { A with nx := I m, ct := I m, bk := A.nx } ρ M1) ∧ (k = false → A.nx ρ M1)) : (sWhile c b).f A ρ M :=
  ⟨W, h0, fun m ρ M hw => step (fun m ρ M => ∃ m', m' < m ∧ W m' ρ M) (fun m m' ρ M h w => ⟨m', h, w⟩) m ρ M hw⟩

/-! ### comprehensions -/
/-- what is kept, what it gives; J: what stands of the memory -/
theorem lc_map {g : WG} {tt : WT} {te : WE} {stay : Mem → Prop} {ρ : Sl} {Q : D → Mem → Prop} (p : D → Bool) (f : D → D) (Jv : Mem → Prop) (items : List D) (step : ∀ (J : Mem → Prop), (∀ M, Jv M → J M) → ∀ x ∈ items, ∀ M, Jv M → stay M ∧ g.f x ρ M fun ρ2 M2 => tt.f ρ2 M2 fun b M3 => b = p x ∧ (b = true → te.f ρ2 M3 fun y M4 => y = f x ∧ J M4) ∧ (b = false → J M3))
    (hl : items.length ≤ sizeLine) (fin : ∀ M, Jv M → stay M ∧ ∀ q, M q = none → Q (.ref q) (mupd M q (.lst ((items.filter p).map f)))) (M : Mem) (h : Jv M) : lcF g tt te stay ρ Q items [] M := by
  have go : ∀ (xs acc : List D) (M : Mem), (∀ x ∈ xs, x ∈ items) → Jv M → acc.length + xs.length ≤ items.length → acc ++ (xs.filter p).map f = (items.filter p).map f → lcF g tt te stay ρ Q xs acc M := by
    intro xs
    induction xs with
    | nil =>
      intro acc M _ h _ e
      obtain ⟨h1, h2⟩ := fin M h
      rw [List.filter_nil, List.map_nil, List.append_nil] at e
      rw [← e] at h2
      exact ⟨h1, h2⟩
    | cons x xs ih =>
      intro acc M hm h hlen e
      rw [List.length_cons] at hlen
      obtain ⟨h1, h2⟩ := step Jv (fun _ z => z) x (hm x List.mem_cons_self) M h
      refine ⟨h1, g.mono _ _ _ _ _ (fun ρ2 M2 q => tt.mono _ _ _ _ (fun b M3 q => ?_) q) h2⟩
      obtain ⟨eb, q1, q2⟩ := q
      subst eb
      refine ⟨fun hb => te.mono _ _ _ _ (fun y M4 q => ?_) (q1 hb), fun hb => ih acc M3 (fun z hz => hm z (List.mem_cons_of_mem _ hz)) (q2 hb) (by omega) ?_⟩
      · obtain ⟨rfl, q⟩ := q
        refine ⟨by omega, ih _ M4 (fun z hz => hm z (List.mem_cons_of_mem _ hz)) q (by rw [List.length_append, List.length_singleton]; omega) ?_⟩
        rw [List.filter_cons_of_pos hb, List.map_cons] at e
        rw [List.append_assoc]; exact e
      · rw [List.filter_cons_of_neg (by rw [hb]; exact Bool.false_ne_true)] at e
        exact e
  exact go items [] M (fun _ h => h) h (by simp) rfl
/-- no test -/
theorem lc_all {g : WG} {te : WE} {stay : Mem → Prop} {ρ : Sl} {Q : D → Mem → Prop} (f : D → D) (Jv : Mem → Prop) (items : List D) (step : ∀ (J : Mem → Prop), (∀ M, Jv M → J M) → ∀ x ∈ items, ∀ M, Jv M → stay M ∧ g.f x ρ M fun ρ2 M2 => te.f ρ2 M2 fun y M4 => y = f x ∧ J M4)
    (hl : items.length ≤ sizeLine) (fin : ∀ M, Jv M → stay M ∧ ∀ q, M q = none → Q (.ref q) (mupd M q (.lst (items.map f)))) (M : Mem) (h : Jv M) : lcF g wtYes te stay ρ Q items [] M := by
  have e : items.filter (fun _ => true) = items := List.filter_eq_self.mpr fun _ _ => rfl
  refine lc_map (fun _ => true) f Jv items (fun J mk x hx M h => ?_) hl (fun M h => by rw [e]; exact fin M h) M h
  obtain ⟨h1, h2⟩ := step J mk x hx M h
  exact ⟨h1, g.mono _ _ _ _ _ (fun ρ2 M2 q => ⟨rfl, fun _ => q, fun z => by cases z⟩) h2⟩
/-- some datum each, by a relation; J by the number of data made -/
theorem lc_rel {g : WG} {te : WE} {stay : Mem → Prop} {ρ : Sl} {Q : D → Mem → Prop} (R : D → Prop) (Jv : Nat → Mem → Prop) (items : List D) (step : ∀ (J : Nat → Mem → Prop), (∀ i M, Jv i M → J i M) → ∀ (G : D → Nat → Mem → Prop), (∀ y i M, R y → Jv i M → G y i M) → ∀ i x, i < items.length → x ∈ items → ∀ M, Jv i M → stay M ∧ g.f x ρ M fun ρ2 M2 => te.f ρ2 M2 fun y M4 => G y (i + 1) M4)
    (hl : items.length ≤ sizeLine) (fin : ∀ M ys, Jv items.length M → ys.length = items.length → (∀ y ∈ ys, R y) → stay M ∧ ∀ q, M q = none → Q (.ref q) (mupd M q (.lst ys))) (M : Mem) (h : Jv 0 M) : lcF g wtYes te stay ρ Q items [] M := by
  have go : ∀ (xs acc : List D) (M : Mem), (∀ x ∈ xs, x ∈ items) → Jv acc.length M → acc.length + xs.length = items.length → (∀ y ∈ acc, R y) → lcF g wtYes te stay ρ Q xs acc M := by
    intro xs
    induction xs with
    | nil =>
      intro acc M _ h hlen hr
      have hl' : acc.length = items.length := by simpa using hlen
      obtain ⟨h1, h2⟩ := fin M acc (by rw [← hl']; exact h) hl' hr
      exact ⟨h1, h2⟩
    | cons x xs ih =>
      intro acc M hm h hlen hr
      rw [List.length_cons] at hlen
      obtain ⟨h1, h2⟩ := step Jv (fun _ _ z => z) (fun y i M => R y ∧ Jv i M) (fun _ _ _ a b => ⟨a, b⟩) acc.length x (by omega) (hm x List.mem_cons_self) M h
      refine ⟨h1, g.mono _ _ _ _ _ (fun ρ2 M2 q => ⟨fun _ => te.mono _ _ _ _ (fun y M4 q => ?_) q, fun z => by cases z⟩) h2⟩
      refine ⟨by omega, ih _ M4 (fun z hz => hm z (List.mem_cons_of_mem _ hz)) (by rw [List.length_append, List.length_singleton]; exact q.2) (by rw [List.length_append, List.length_singleton]; omega) fun y' hy => ?_⟩
      rcases List.mem_append.mp hy with hy | hy
      · exact hr y' hy
      · rw [List.mem_singleton.mp hy]; exact q.1
  exact go items [] M (fun _ h => h) h (by simp) (fun y hy => by cases hy)
/-! ### over lists of one kind -/
theorem loop_enc {α : Type} (enc : α → D) {g : WG} {b : WS} {stay : Mem → Prop} {A : DEn} (items : List α) (Iv : List α → Sl → Mem → Prop) (step : ∀ (I : List α → Sl → Mem → Prop), (∀ xs ρ M, Iv xs ρ M → I xs ρ M) → ∀ pre x post ρ M, items = pre ++ x :: post → Iv pre ρ M → stay M ∧ g.f (enc x) ρ M fun ρ2 M2 => b.f { A with nx := I (pre ++ [x]), ct := I (pre ++ [x]), bk := A.nx } ρ2 M2)
    (fin : ∀ ρ M, Iv items ρ M → stay M ∧ A.nx ρ M) (ρ : Sl) (M : Mem) (h : Iv [] ρ M) : loopF g b stay A (items.map enc) ρ M := by
  refine loop_rest (fun xs ρ M => ∃ pre post, items = pre ++ post ∧ xs = post.map enc ∧ Iv pre ρ M) (fun I mk x xs ρ M ⟨pre, post, e, ex, h⟩ => ?_) (fun ρ M ⟨pre, post, e, ex, h⟩ => ?_) _ ρ M ⟨[], items, rfl, rfl, h⟩
  · cases post with
    | nil => simp at ex
    | cons y post =>
      rw [List.map_cons] at ex
      injection ex with e1 e2
      subst e1 e2
      obtain ⟨h1, h2⟩ := step Iv (fun _ _ _ z => z) pre y post ρ M e h
      refine ⟨h1, g.mono _ _ _ _ _ (fun ρ2 M2 q => b.mono { A with nx := Iv (pre ++ [y]), ct := Iv (pre ++ [y]), bk := A.nx } _ ρ2 M2 ⟨fun ρ3 M3 q3 => ?_, fun _ _ z => z, fun _ _ z => z, fun ρ3 M3 q3 => ?_⟩ q) h2⟩
      · exact mk _ _ _ ⟨pre ++ [y], post, by rw [e]; simp, rfl, q3⟩
      · exact mk _ _ _ ⟨pre ++ [y], post, by rw [e]; simp, rfl, q3⟩
  · have : post = [] := by cases post with | nil => rfl | cons y post => simp at ex
    subst this
    rw [List.append_nil] at e
    subst e
    exact fin ρ M h
theorem lc_encf {α : Type} (enc : α → D) {g : WG} {tt : WT} {te : WE} {stay : Mem → Prop} {ρ : Sl} {Q : D → Mem → Prop} (p : α → Bool) (f : α → D) (Jv : Mem → Prop) (items : List α) (step : ∀ (J : Mem → Prop), (∀ M, Jv M → J M) → ∀ x ∈ items, ∀ M, Jv M → stay M ∧ g.f (enc x) ρ M fun ρ2 M2 => tt.f ρ2 M2 fun b M3 => b = p x ∧ (b = true → te.f ρ2 M3 fun y M4 => y = f x ∧ J M4) ∧ (b = false → J M3))
    (hl : items.length ≤ sizeLine) (fin : ∀ M, Jv M → stay M ∧ ∀ q, M q = none → Q (.ref q) (mupd M q (.lst ((items.filter p).map f)))) (M : Mem) (h : Jv M) : lcF g tt te stay ρ Q (items.map enc) [] M := by
  have go : ∀ (xs : List α) (acc : List D) (M : Mem), (∀ x ∈ xs, x ∈ items) → Jv M → acc.length + xs.length ≤ items.length → acc ++ (xs.filter p).map f = (items.filter p).map f → lcF g tt te stay ρ Q (xs.map enc) acc M := by
    intro xs
    induction xs with
    | nil =>
      intro acc M _ h _ e
      obtain ⟨h1, h2⟩ := fin M h
      rw [List.filter_nil, List.map_nil, List.append_nil] at e
      rw [← e] at h2
      exact ⟨h1, h2⟩
    | cons x xs ih =>
      intro acc M hm h hlen e
      rw [List.length_cons] at hlen
      obtain ⟨h1, h2⟩ := step Jv (fun _ z => z) x (hm x List.mem_cons_self) M h
      refine ⟨h1, g.mono _ _ _ _ _ (fun ρ2 M2 q => tt.mono _ _ _ _ (fun b M3 q => ?_) q) h2⟩
      obtain ⟨eb, q1, q2⟩ := q
      subst eb
      refine ⟨fun hb => te.mono _ _ _ _ (fun y M4 q => ?_) (q1 hb), fun hb => ih acc M3 (fun z hz => hm z (List.mem_cons_of_mem _ hz)) (q2 hb) (by omega) ?_⟩
      · obtain ⟨rfl, q⟩ := q
        refine ⟨by omega, ih _ M4 (fun z hz => hm z (List.mem_cons_of_mem _ hz)) q (by rw [List.length_append, List.length_singleton]; omega) ?_⟩
        rw [List.filter_cons_of_pos hb, List.map_cons] at e
        rw [List.append_assoc]; exact e
      · rw [List.filter_cons_of_neg (by rw [hb]; exact Bool.false_ne_true)] at e
        exact e
  exact go items [] M (fun _ h => h) h (by simp) rfl
theorem lc_enc {α : Type} (enc : α → D) {g : WG} {te : WE} {stay : Mem → Prop} {ρ : Sl} {Q : D → Mem → Prop} (f : α → D) (Jv : Mem → Prop) (items : List α) (step : ∀ (J : Mem → Prop), (∀ M, Jv M → J M) → ∀ x ∈ items, ∀ M, Jv M → stay M ∧ g.f (enc x) ρ M fun ρ2 M2 => te.f ρ2 M2 fun y M4 => y = f x ∧ J M4)
    (hl : items.length ≤ sizeLine) (fin : ∀ M, Jv M → stay M ∧ ∀ q, M q = none → Q (.ref q) (mupd M q (.lst (items.map f)))) (M : Mem) (h : Jv M) : lcF g wtYes te stay ρ Q (items.map enc) [] M := by
  have e : items.filter (fun _ => true) = items := List.filter_eq_self.mpr fun _ _ => rfl
  refine lc_encf enc (fun _ => true) f Jv items (fun J mk x hx M h => ?_) hl (fun M h => by rw [e]; exact fin M h) M h
  obtain ⟨h1, h2⟩ := step J mk x hx M h
  exact ⟨h1, g.mono _ _ _ _ _ (fun ρ2 M2 q => ⟨rfl, fun _ => q, fun z => by cases z⟩) h2⟩
theorem dc_enc {α : Type} (enc : α → D) {g : WG} {tk te : WE} {stay : Mem → Prop} {ρ : Sl} {Q : D → Mem → Prop} (k v : α → D) (Jv : Mem → Prop) (items : List α) (step : ∀ (J : Mem → Prop), (∀ M, Jv M → J M) → ∀ x ∈ items, ∀ M, Jv M → (k x).pkey.isSome = true ∧ stay M ∧ g.f (enc x) ρ M fun ρ2 M2 => tk.f ρ2 M2 fun y M3 => te.f ρ2 M3 fun z M4 => y = k x ∧ z = v x ∧ J M4)
    (hl : items.length ≤ sizeLine) (fin : ∀ M, Jv M → stay M ∧ ∀ q, M q = none → Q (.ref q) (mupd M q (.dic (items.foldl (fun acc x => dputD acc (k x) (v x)) [])))) (M : Mem) (h : Jv M) : dcF g wtYes tk te stay ρ Q (items.map enc) [] M := by
  have go : ∀ (xs : List α) (acc : List (D × D)) (M : Mem), (∀ x ∈ xs, x ∈ items) → Jv M → acc.length + xs.length ≤ items.length → xs.foldl (fun acc x => dputD acc (k x) (v x)) acc = items.foldl (fun acc x => dputD acc (k x) (v x)) [] → dcF g wtYes tk te stay ρ Q (xs.map enc) acc M := by
    intro xs
    induction xs with
    | nil =>
      intro acc M _ h _ e
      obtain ⟨h1, h2⟩ := fin M h
      rw [← e] at h2
      exact ⟨h1, h2⟩
    | cons x xs ih =>
      intro acc M hm h hlen e
      rw [List.length_cons] at hlen
      obtain ⟨h0, h1, h2⟩ := step Jv (fun _ z => z) x (hm x List.mem_cons_self) M h
      refine ⟨h1, g.mono _ _ _ _ _ (fun ρ2 M2 q => ⟨fun _ => tk.mono _ _ _ _ (fun y M3 q => te.mono _ _ _ _ (fun z M4 q => ?_) q) q, fun z => by cases z⟩) h2⟩
      obtain ⟨rfl, rfl, q⟩ := q
      refine ⟨h0, by omega, ih _ M4 (fun z hz => hm z (List.mem_cons_of_mem _ hz)) q (by have := dput_len acc (k x) (v x); omega) e⟩
  exact go items [] M (fun _ h => h) h (by simp) rfl
theorem dget_put (kvs : List (D × D)) (d x e : D) : (dgetD (dputD kvs d x) e).isSome = ((dgetD kvs e).isSome || decide (d.key = e.key)) := by
  rw [← any_dget, ← any_dget]
  unfold dputD
  split
  · rename_i h
    rw [List.any_map]
    have : ((fun p : D × D => decide (p.1.key = e.key)) ∘ fun p => if p.1.key = d.key then (p.1, x) else p) = fun p => decide (p.1.key = e.key) := by
      funext p
      simp only [Function.comp]
      split <;> rfl
    rw [this]
    by_cases hd : d.key = e.key
    · rw [decide_eq_true hd, Bool.or_true, ← hd]; exact h
    · rw [decide_eq_false hd, Bool.or_false]
  · rw [List.any_append]
    simp
theorem dput_keys {kvs : List (D × D)} {d x : D} (h : ∀ p ∈ kvs, p.1.pkey.isSome = true) (hd : d.pkey.isSome = true) : ∀ p ∈ dputD kvs d x, p.1.pkey.isSome = true := by
  intro p hp
  unfold dputD at hp
  split at hp
  · obtain ⟨q, hq, e⟩ := List.mem_map.mp hp
    split at e
    · rw [← e]; exact h q hq
    · rw [← e]; exact h q hq
  · rcases List.mem_append.mp hp with hp | hp
    · exact h p hp
    · rw [List.mem_singleton.mp hp]; exact hd
theorem dputs_keys {α : Type} (k v : α → D) (hk : ∀ x, (k x).pkey.isSome = true) : ∀ (xs : List α) (acc : List (D × D)), (∀ p ∈ acc, p.1.pkey.isSome = true) → ∀ p ∈ xs.foldl (fun acc x => dputD acc (k x) (v x)) acc, p.1.pkey.isSome = true
  | [], _, h => h
  | x :: xs, acc, h => dputs_keys k v hk xs _ (dput_keys h (hk x))
theorem dputs_get {α : Type} (k v : α → D) (e : D) : ∀ (xs : List α) (acc : List (D × D)), (dgetD (xs.foldl (fun acc x => dputD acc (k x) (v x)) acc) e).isSome = ((dgetD acc e).isSome || xs.any fun x => decide ((k x).key = e.key))
  | [], acc => by simp
  | x :: xs, acc => by
    rw [List.foldl_cons, dputs_get k v e xs, dget_put, List.any_cons, Bool.or_assoc]
/-- two for, no test -/
theorem lc2_enc {α β : Type} (enc : α → D) (enc1 : β → D) {g : WG} {wi1 : WI} {g1 : WG} {te : WE} {vs1 : List Nat} {stay : Mem → Prop} {ρ : Sl} {Q : D → Mem → Prop} (inner : α → List β) (f : α → β → D) (Jv : Mem → Prop) (items : List α)
    (step : ∀ (J : Mem → Prop), (∀ M, Jv M → J M) → ∀ x ∈ items, ∀ M, Jv M → stay M ∧ g.f (enc x) ρ M fun ρ2 M2 => wi1.f ρ2 M2 fun items1 stay1 M3 => items1 = (inner x).map enc1 ∧ J M3 ∧ (∀ M, Jv M → stay1 M) ∧ ∀ y ∈ inner x, ∀ M, Jv M → g1.f (enc1 y) (wipeD ρ2 vs1) M fun ρ3 M5 => te.f ρ3 M5 fun z M6 => z = f x y ∧ J M6)
    (hl : ((items.map fun x => (inner x).map (f x)).flatten).length ≤ sizeLine) (fin : ∀ M, Jv M → stay M ∧ ∀ q, M q = none → Q (.ref q) (mupd M q (.lst ((items.map fun x => (inner x).map (f x)).flatten)))) (M : Mem) (h : Jv M) : lc2F g wtYes wi1 g1 wtYes te vs1 stay ρ Q (items.map enc) [] M := by
  have inn : ∀ (x : α) (ρ2 : Sl) (stay1 : Mem → Prop) (N : List D → Mem → Prop), (∀ M, Jv M → stay1 M) → (∀ y ∈ inner x, ∀ M, Jv M → g1.f (enc1 y) (wipeD ρ2 vs1) M fun ρ3 M5 => te.f ρ3 M5 fun z M6 => z = f x y ∧ Jv M6) →
      ∀ (ys : List β) (acc : List D) (M : Mem), (∀ y ∈ ys, y ∈ inner x) → Jv M → acc.length + ys.length ≤ sizeLine → (∀ M, Jv M → N (acc ++ ys.map (f x)) M) → lc2G g1 wtYes te stay1 (wipeD ρ2 vs1) N (ys.map enc1) acc M := by
    intro x ρ2 stay1 N hst hy ys
    induction ys with
    | nil =>
      intro acc M _ h _ hN
      rw [List.map_nil, List.append_nil] at hN
      exact ⟨hst M h, hN M h⟩
    | cons y ys ih =>
      intro acc M hm h hlen hN
      rw [List.length_cons] at hlen
      refine ⟨hst M h, g1.mono _ _ _ _ _ (fun ρ3 M5 q => ⟨fun _ => te.mono _ _ _ _ (fun z M6 q => ?_) q, fun z => by cases z⟩) (hy y (hm y List.mem_cons_self) M h)⟩
      obtain ⟨rfl, q⟩ := q
      refine ⟨by omega, ih _ M6 (fun z hz => hm z (List.mem_cons_of_mem _ hz)) q (by rw [List.length_append, List.length_singleton]; omega) ?_⟩
      intro M' h'
      have := hN M' h'
      rw [List.map_cons] at this
      rw [List.append_assoc]; exact this
  have go : ∀ (xs : List α) (acc : List D) (M : Mem), (∀ x ∈ xs, x ∈ items) → Jv M → acc.length + ((xs.map fun x => (inner x).map (f x)).flatten).length ≤ sizeLine → acc ++ (xs.map fun x => (inner x).map (f x)).flatten = (items.map fun x => (inner x).map (f x)).flatten → lc2F g wtYes wi1 g1 wtYes te vs1 stay ρ Q (xs.map enc) acc M := by
    intro xs
    induction xs with
    | nil =>
      intro acc M _ h _ e
      obtain ⟨h1, h2⟩ := fin M h
      rw [List.map_nil, List.flatten_nil, List.append_nil] at e
      rw [← e] at h2
      exact ⟨h1, h2⟩
    | cons x xs ih =>
      intro acc M hm h hlen e
      rw [List.map_cons, List.flatten_cons, List.length_append, List.length_map] at hlen
      obtain ⟨h1, h2⟩ := step Jv (fun _ z => z) x (hm x List.mem_cons_self) M h
      refine ⟨h1, g.mono _ _ _ _ _ (fun ρ2 M2 q => ⟨fun _ => wi1.mono _ _ _ _ (fun items1 stay1 M3 q => ?_) q, fun z => by cases z⟩) h2⟩
      obtain ⟨rfl, hj, hst, hy⟩ := q
      refine inn x ρ2 stay1 _ hst hy (inner x) acc M3 (fun _ z => z) hj (by omega) fun M4 h4 => ?_
      refine ih _ M4 (fun z hz => hm z (List.mem_cons_of_mem _ hz)) h4 (by rw [List.length_append, List.length_map]; omega) ?_
      rw [List.map_cons, List.flatten_cons] at e
      rw [List.append_assoc]; exact e
  exact go items [] M (fun _ h => h) h (by simpa using hl) rfl
/-- a range's items -/
def riD (lo : Int) (i : Nat) : D := .int (lo + (i : Nat))
theorem rng_enc (lo : Int) (n : Nat) : rngD lo n = (List.range n).map (riD lo) := rfl
/-! ### a block cut in two -/
theorem seq_cut {a b : WS} {A : DEn} {ρ : Sl} {M : Mem} (Iv : Sl → Mem → Prop) (h1 : ∀ (I : Sl → Mem → Prop), (∀ ρ M, Iv ρ M → I ρ M) → a.f { A with nx := I } ρ M) (h2 : ∀ ρ M, Iv ρ M → b.f A ρ M) : (sSeq a b).f A ρ M :=
  a.mono { A with nx := Iv } { A with nx := b.f A } ρ M ⟨h2, fun _ _ z => z, fun _ _ z => z, fun _ _ z => z⟩ (h1 Iv fun _ _ z => z)
end MP

namespace MP
open PySem PySem.Spec PyProof.Rows L2

/-! ### == where no truth value and no float stands -/
mutual
def D.nb : D → Bool
  | .non => true
  | .int _ => true
  | .str _ => true
  | .tup xs => D.nbs xs
  | _ => false
def D.nbs : List D → Bool
  | [] => true
  | x :: xs => D.nb x && D.nbs xs
end
mutual
theorem nb_pl : ∀ (d : D), d.nb = true → d.pl
  | .non, _ => rfl
  | .int _, _ => rfl
  | .str _, _ => rfl
  | .tup xs, h => by simp only [D.nb] at h; simp only [D.pl, D.py, PyData.plain]; exact nbs_pls xs h
  | .bl _, h => by simp [D.nb] at h
  | .fl _, h => by simp [D.nb] at h
  | .ref _, h => by simp [D.nb] at h
  | .ty _, h => by simp [D.nb] at h
theorem nbs_pls : ∀ (ds : List D), D.nbs ds = true → D.pls ds
  | [], _ => rfl
  | d :: ds, h => by
    simp only [D.nbs, Bool.and_eq_true] at h
    simp only [D.pls, D.pys, PyData.plainAll, Bool.and_eq_true]
    exact ⟨nb_pl d h.1, nbs_pls ds h.2⟩
end
mutual
theorem eqD_iff : ∀ (d e : D), d.nb = true → e.nb = true → (eqD d e = true ↔ d = e)
  | .non, e, _, h => by cases e <;> simp [eqD, D.py, PyData.eqv, D.nb] at h ⊢
  | .int i, e, _, h => by cases e <;> simp [eqD, D.py, PyData.eqv, D.nb] at h ⊢
  | .str x, e, _, h => by cases e <;> simp [eqD, D.py, PyData.eqv, D.nb] at h ⊢
  | .tup xs, e, g, h => by
    cases e <;> simp [eqD, D.py, PyData.eqv, D.nb] at h ⊢
    exact eqDs_iff xs _ (by simpa [D.nb] using g) h
  | .bl _, _, g, _ => by simp [D.nb] at g
  | .fl _, _, g, _ => by simp [D.nb] at g
  | .ref _, _, g, _ => by simp [D.nb] at g
  | .ty _, _, g, _ => by simp [D.nb] at g
theorem eqDs_iff : ∀ (ds es : List D), D.nbs ds = true → D.nbs es = true → (PyData.eqvAll (D.pys ds) (D.pys es) = true ↔ ds = es)
  | [], [], _, _ => by simp [D.pys, PyData.eqvAll]
  | [], _ :: _, _, _ => by simp [D.pys, PyData.eqvAll]
  | _ :: _, [], _, _ => by simp [D.pys, PyData.eqvAll]
  | d :: ds, e :: es, h1, h2 => by
    simp only [D.nbs, Bool.and_eq_true] at h1 h2
    simp only [D.pys, PyData.eqvAll, Bool.and_eq_true, List.cons.injEq]
    rw [eqDs_iff ds es h1.2 h2.2]
    have := eqD_iff d e h1.1 h2.1
    unfold eqD at this
    rw [this]
end
theorem eqD_dec {α : Type} [DecidableEq α] (enc : α → D) (hn : ∀ a, (enc a).nb = true) (hi : ∀ a b, enc a = enc b → a = b) (a b : α) : eqD (enc a) (enc b) = decide (a = b) := by
  have h := eqD_iff (enc a) (enc b) (hn a) (hn b)
  by_cases e : a = b
  · rw [decide_eq_true e]; exact h.mpr (by rw [e])
  · rw [decide_eq_false e]
    exact Bool.eq_false_iff.mpr fun z => e (hi a b (h.mp z))
theorem nbs_map {α : Type} (enc : α → D) (hn : ∀ a, (enc a).nb = true) : ∀ xs : List α, D.nbs (xs.map enc) = true
  | [] => rfl
  | x :: xs => by simp only [List.map_cons, D.nbs, hn x, nbs_map enc hn xs, Bool.and_self]
theorem map_inj {α : Type} (enc : α → D) (hi : ∀ a b, enc a = enc b → a = b) : ∀ (xs ys : List α), xs.map enc = ys.map enc → xs = ys
  | [], [], _ => rfl
  | [], _ :: _, h => by simp at h
  | _ :: _, [], h => by simp at h
  | x :: xs, y :: ys, h => by
    simp only [List.map_cons, List.cons.injEq] at h
    rw [hi x y h.1, map_inj enc hi xs ys h.2]
theorem any_enc {α : Type} [DecidableEq α] (enc : α → D) (hn : ∀ a, (enc a).nb = true) (hi : ∀ a b, enc a = enc b → a = b) (xs : List α) (a : α) : ((xs.map enc).any fun x => eqD x (enc a)) = decide (a ∈ xs) := by
  rw [List.any_map]
  induction xs with
  | nil => rfl
  | cons x xs ih =>
    rw [List.any_cons, ih]
    simp only [Function.comp, eqD_dec enc hn hi, List.mem_cons]
    by_cases e : x = a
    · simp [e]
    · have : ¬ a = x := fun z => e z.symm
      simp [e, this]
theorem deps_map {α : Type} (enc : α → D) (n : Nat) (h : ∀ a, (enc a).dep ≤ n) : ∀ xs : List α, D.deps (xs.map enc) ≤ n
  | [] => Nat.zero_le _
  | x :: xs => by
    have h1 := h x
    have h2 := deps_map enc n h xs
    simp only [D.deps, D.dep, List.map_cons, D.pys, PyData.depthAll] at h1 h2 ⊢
    omega
theorem dep_tup (xs : List D) : (D.tup xs).dep = D.deps xs + 1 := by simp only [D.dep, D.py, PyData.depth, D.deps]

/-! ### sorting by insertion -/
def insB {α : Type} (le : α → α → Bool) (a : α) : List α → List α
  | [] => [a]
  | b :: bs => if le a b then a :: b :: bs else b :: insB le a bs
def isortB {α : Type} (le : α → α → Bool) : List α → List α
  | [] => []
  | a :: as => insB le a (isortB le as)
section
variable {α : Type} {le : α → α → Bool}
theorem insB_perm (a : α) : ∀ bs : List α, (insB le a bs).Perm (a :: bs)
  | [] => .refl _
  | b :: bs => by
    unfold insB
    split
    · exact .refl _
    · exact ((insB_perm a bs).cons b).trans (.swap _ _ _)
theorem isortB_perm : ∀ as : List α, (isortB le as).Perm as
  | [] => .refl _
  | a :: as => (insB_perm a _).trans ((isortB_perm as).cons a)
theorem insB_sorted (tr : ∀ a b c, le a b = true → le b c = true → le a c = true) (to : ∀ a b, (le a b || le b a) = true) (a : α) : ∀ bs : List α, bs.Pairwise (fun x y => le x y = true) → (insB le a bs).Pairwise (fun x y => le x y = true)
  | [], _ => by simp [insB]
  | b :: bs, h => by
    have h' := List.pairwise_cons.mp h
    unfold insB
    split
    · rename_i hab
      exact List.pairwise_cons.mpr ⟨fun x hx => by
        rcases List.mem_cons.mp hx with rfl | hx
        · exact hab
        · exact tr a b x hab (h'.1 x hx), h⟩
    · rename_i hab
      refine List.pairwise_cons.mpr ⟨fun x hx => ?_, insB_sorted tr to a bs h'.2⟩
      rcases List.mem_cons.mp ((insB_perm a bs).mem_iff.mp hx) with rfl | hx
      · have := to x b
        rw [Bool.or_eq_true] at this
        rcases this with z | z
        · exact absurd z hab
        · exact z
      · exact h'.1 x hx
theorem isortB_sorted (tr : ∀ a b c, le a b = true → le b c = true → le a c = true) (to : ∀ a b, (le a b || le b a) = true) : ∀ as : List α, (isortB le as).Pairwise (fun x y => le x y = true)
  | [] => .nil
  | a :: as => insB_sorted tr to a _ (isortB_sorted tr to as)
theorem mergeSort_isort (tr : ∀ a b c, le a b = true → le b c = true → le a c = true) (to : ∀ a b, (le a b || le b a) = true) (an : ∀ a b, le a b = true → le b a = true → a = b) (as : List α) : as.mergeSort le = isortB le as :=
  List.Perm.eq_of_pairwise (le := fun x y => le x y = true) (fun a b _ _ h1 h2 => an a b h1 h2) (List.pairwise_mergeSort tr to as) (isortB_sorted tr to as) ((List.mergeSort_perm as le).trans (isortB_perm as).symm)
theorem sortD_enc (enc : α → D) (he : ∀ a b, le a b = !(PySem.W.dataLt (enc b).py (enc a).py)) (tr : ∀ a b c, le a b = true → le b c = true → le a c = true) (to : ∀ a b, (le a b || le b a) = true) (an : ∀ a b, le a b = true → le b a = true → a = b) (as : List α) :
    sortD (as.map enc) = (isortB le as).map enc := by
  rw [← mergeSort_isort tr to an, List.map_mergeSort (s := PySem.W.dataLe false D.py)]
  · rfl
  · intro a _ b _
    rw [he, PySem.W.dataLe_eq]; rfl
end

/-! ### pairs of ints -/
def ipD (x : Int × Int) : D := .tup [.int x.1, .int x.2]
theorem ipD_nb (x : Int × Int) : (ipD x).nb = true := rfl
theorem ipD_inj (x y : Int × Int) (h : ipD x = ipD y) : x = y := by
  obtain ⟨a, b⟩ := x
  obtain ⟨c, d⟩ := y
  simp only [ipD, D.tup.injEq, List.cons.injEq, D.int.injEq, and_true] at h
  rw [h.1, h.2]
theorem ipD_dep (x : Int × Int) : (ipD x).dep = 1 := rfl
theorem ipD_pl (x : Int × Int) : (ipD x).pl := rfl
/-- a tuple of pairs -/
def rowD (r : List (Int × Int)) : D := .tup (r.map ipD)
theorem rowD_nb (r : List (Int × Int)) : (rowD r).nb = true := by
  show D.nbs (r.map ipD) = true
  exact nbs_map ipD ipD_nb r
theorem rowD_inj (x y : List (Int × Int)) (h : rowD x = rowD y) : x = y := by
  simp only [rowD, D.tup.injEq] at h
  exact map_inj ipD ipD_inj x y h
theorem rowD_dep (r : List (Int × Int)) : (rowD r).dep ≤ 2 := by
  have := deps_map ipD 1 (fun a => Nat.le_of_eq (ipD_dep a)) r
  rw [rowD, dep_tup]; omega
theorem rowD_pl (r : List (Int × Int)) : (rowD r).pl := nb_pl _ (rowD_nb r)
end MP

namespace MP
open PySem PySem.Spec PyProof.Rows L2

local macro_rules | `(tactic| walk_at "mp1") => `(tactic| simp only [e_wVar, e_wC, e_wOp, e_wUn, e_aNil, e_aCons, e_wCB, e_wCK, e_wTup, e_wLst, e_wtB, e_wtV, e_wtNot, e_wtAnd, e_wtOr, e_wAnd, e_wOr, e_wNot, e_wIf, e_wChain, e_wSl, e_oNone, e_oSome, e_wBM, e_wLc, e_wLc2, e_wDc, e_wtYes, e_sNil, e_sSeq, e_sBreak, e_sCont, e_sDrop, e_sRet, e_sRetN, e_sIf, e_sAsg, e_sPar, e_sAug, e_sFor, e_gN, e_gsNil, e_gsCons, e_gT, e_gSubD, e_iSeq, e_iR1, e_iR2, e_iEnumL, e_iZipW, e_mAppend, e_mExtend, e_mIndex, e_nLen, e_nTuple, e_nList, e_nBls, e_rIx, e_nSorted, e_nBest, e_kBestD, e_rAdd_int, e_rAdd_tup, e_rAdd_str, e_rAdd_ref, e_rSub_int, e_rMulA_int, e_rMulA_tup, e_rMulA_ref, e_rFdiv_int, e_rMod_int, e_rPow_int, e_rLe_int, e_rGt_int, e_rGe_int, e_rLt_int, e_rLt_tup, e_rEqn_int, e_rEqn_str, e_rEqn_bl, e_rEqn_tup, e_rEqn_ref, e_rIsn_non, e_rIsn_bl, e_rInn_tup, e_rNeg_int, e_ix_tup, e_ix_fl, len_tup, len_fl, items_tup, items_fl, iseq_tup, iseq_fl, e_nInt_int, e_nInt_bl, e_nInt1_int, e_nInt2_int, e_nIsi_2, e_r2F, e_tru_bl, e_tru_int, e_tru_tup, tn_int, tn_bl, tn_str, tn_non, tn_tup, tn_fl, kb_int_int, kb_int_bool, kb_int_str, kb_int_tuple, kb_int_list, kb_bool_int, kb_bool_bool, kb_bool_str, kb_bool_tuple, kb_bool_list, kb_str_int, kb_str_bool, kb_str_str, kb_str_tuple, kb_str_list, kb_NoneType_int, kb_NoneType_bool, kb_NoneType_str, kb_NoneType_tuple, kb_NoneType_list, kb_tuple_int, kb_tuple_bool, kb_tuple_str, kb_tuple_tuple, kb_tuple_list, kb_list_int, kb_list_bool, kb_list_str, kb_list_tuple, kb_list_list, s_at0, s_at1, s_at2, s_at3, s_at4, s_ex2, startD, List.map_cons, List.map_nil, List.length_cons, List.length_nil, List.replicate_succ, List.replicate_zero, List.cons_append, List.nil_append, List.append_nil, Nat.sub_self, Nat.reduceAdd, Nat.reduceSub, List.getElem?_cons_zero, List.getElem?_cons_succ, List.getElem?_nil, Option.some.injEq, reduceCtorEq, false_and, and_false, exists_false, exists_eq_left', exists_and_left, exists_and_right, exists_eq_right, D.int.injEq, D.bl.injEq, D.str.injEq, D.tup.injEq, D.ref.injEq, D.ty.injEq, List.cons.injEq, and_self, true_and, and_true, exists_eq_left, List.set_cons_zero, List.set_cons_succ, wipeD, forall_const, if_true, false_implies, true_implies, implies_true, Bool.false_eq_true, Bool.true_eq_false, eq_self_iff_true, xor_f, xor_t, Bool.not_true, Bool.not_false, decide_eq_true_eq, decide_eq_false_iff_not])
local macro_rules | `(tactic| walk_at "mp") => `(tactic| (try dsimp only); (try walk_at "mp1"))
local macro_rules | `(tactic| walk_at "cm") => `(tactic| first | exact cmul_r ⟨by decide, by decide⟩ | exact cmul_l ⟨by decide, by decide⟩ | exact cmul_r ⟨by omega, by omega⟩ | exact cmul_l ⟨by omega, by omega⟩)
/-! ### the laws' own helpers -/
def nNewS (C : List D → Mem → Prop) (g : List D → Mem → MO → Prop) : WN := ⟨fun ds M Q => C ds M ∧ ∀ o, g ds M o → ∀ p, M p = none → Q (.ref p) (mupd M p o), fun _ _ _ _ h q => ⟨q.1, fun o ho p hp => h _ _ (q.2 o ho p hp)⟩⟩
theorem e_nNewS (C : List D → Mem → Prop) (g : List D → Mem → MO → Prop) (ds : List D) (M : Mem) (Q : D → Mem → Prop) : (nNewS C g).f ds M Q = (C ds M ∧ ∀ o, g ds M o → ∀ p, M p = none → Q (.ref p) (mupd M p o)) := rfl
theorem law_newS {n k : Nat} {b : WS} {C : List D → Mem → Prop} {g : List D → Mem → MO → Prop} (hn : ∀ ds M r c n, ¬ g ds M (.pool r c n)) (h : ∀ ds M, Cons M → C ds M → ds.length = k ∧ ∀ R : D → Mem → Prop, (∀ p o M', g ds M o → M p = none → M' p = some o → Sub M M' → R (.ref p) M') → b.f (rtE R) (startD n ds) M) : FnLaw n k b (nNewS C g) := fun P w K H ds M Q rm ⟨c, q⟩ => by
  obtain ⟨h1, h2⟩ := h ds M rm.cons c
  refine ⟨h1, M, rm, fun _ z => z, ?_⟩
  refine b.mono (rtE _) _ _ _ ?_ (h2 (RNew (g ds M) M) fun p o M' a b c s => ⟨p, o, rfl, a, b, c, s⟩)
  refine ⟨fun _ M' z => ?_, fun d M' z => ?_, fun _ _ z => z, fun _ _ z => z⟩
  · obtain ⟨p, o, e, _⟩ := z; cases e
  · obtain ⟨p, o, e, e0, e1, e2, s⟩ := z
    subst e
    exact ⟨_, Vw.new rm.cons s e1 e2 (fun r c n z => hn ds M r c n (z ▸ e0)), q o e0 p e1⟩
def w__law_cell : WS :=
    sSeq (sIf (wtB (wOp rLt (wVar 1) (wCB nLen (aCons (wVar 0) (aNil))))) (sRet (wOp rIx (wVar 0) (wVar 1))) (sNil))
    (sRet (wC (.int 0)))
def r__law_cell : WN := nSome (fun ds _ => ∃ (ns : List Int) (k : Int), ds = [.fl (ns.map .int), .int k] ∧ 0 ≤ k) fun _ _ d => ∃ n : Int, d = .int n
theorem law__law_cell : FnLaw 2 2 w__law_cell r__law_cell := law_some fun ds M cn ⟨ns, k, e, hk⟩ => by
  subst e
  refine ⟨rfl, ?_⟩
  intro R mk
  unfold w__law_cell rtE
  walk_at "mp"
  refine ⟨fun h => ?_, fun h => mk _ _ ⟨0, rfl⟩ Sub.refl⟩
  rw [List.length_map] at h
  obtain ⟨m, rfl⟩ : ∃ m : Nat, k = m := ⟨k.toNat, by omega⟩
  have hm : m < ns.length := by omega
  refine ⟨.int ns[m], atI_nat ?_, mk _ _ ⟨_, rfl⟩ Sub.refl⟩
  rw [List.getElem?_map, List.getElem?_eq_getElem hm]; rfl
def w__law_numbers : WS :=
    sSeq (sAsg (wLst (aNil)) (gN 2))
    (sSeq (sAsg (wVar 0) (gN 3))
    (sSeq (sFor (iR1 (aCons (wVar 1) (aNil))) (gN 4) (sIf (wtAnd (wtB (wOp rGe (wVar 0) (wOp rPow (wC (.int 10)) (wC (.int 18))))) (wtB (wOp rGt (wVar 3) (wC (.int 0))))) (sSeq (sDrop (wBM "list" mAppend (wVar 2) (aCons (wOp rMod (wCB nInt (aCons (wVar 3) (aNil))) (wC (.int 4099))) (aNil))))
    (sAsg (wOp rFdiv (wVar 3) (wC (.int 4099))) (gN 3))) (sSeq (sAsg (wOp rMod (wCB nInt (aCons (wOp rAdd (wOp rMulA (wVar 0) (wC (.int 69621))) (wOp rMulA (wOp rAdd (wVar 4) (wC (.int 1))) (wC (.int 48271)))) (aNil))) (wC (.int 2147483647))) (gN 5))
    (sSeq (sAsg (wOp rMod (wCB nInt (aCons (wOp rAdd (wOp rAdd (wOp rMulA (wVar 5) (wVar 5)) (wOp rMulA (wVar 5) (wC (.int 16807)))) (wOp rMulA (wVar 4) (wC (.int 7919)))) (aNil))) (wC (.int 2147483629))) (gN 5))
    (sSeq (sAsg (wOp rMod (wCB nInt (aCons (wOp rAdd (wOp rAdd (wOp rMulA (wVar 5) (wVar 5)) (wVar 0)) (wOp rMulA (wC (.int 17)) (wVar 4))) (aNil))) (wC (.int 2147483587))) (gN 5))
    (sDrop (wBM "list" mAppend (wVar 2) (aCons (wOp rMod (wOp rFdiv (wVar 5) (wC (.int 5))) (wC (.int 4099))) (aNil)))))))))
    (sRet (wVar 2))))
def r__law_numbers : WN := nNewS (fun ds _ => ∃ (c : Int) (k : Nat), ds = [.int c, .int (k : Int)] ∧ k ≤ 64) fun ds _ o => ∃ ns : List Int, o = .lst (ns.map .int) ∧ (∀ n ∈ ns, 0 ≤ n) ∧ ∀ c (k : Nat), ds = [.int c, .int (k : Int)] → ns.length = k
theorem law__law_numbers : FnLaw 6 2 w__law_numbers r__law_numbers := law_newS (fun ds M r c n ⟨ns, e, _⟩ => by cases e) fun ds M cn ⟨c, k, e, hk⟩ => by
  subst e
  refine ⟨rfl, ?_⟩
  intro R mkR
  unfold w__law_numbers rtE
  walk_at "mp"
  refine ⟨by decide, fun p hp => ⟨by omega, by omega, ?_⟩⟩
  refine loop_rng (lo := 0) (n := (k : Int).toNat) (fun i ρ M1 => ∃ (l : Int) (x4 x5 : Option D) (ns : List Int), ρ = [some (.int c), some (.int (k : Int)), some (.ref p), some (.int l), x4, x5] ∧ M1 p = some (.lst (ns.map .int)) ∧ ns.length = i ∧ (∀ n ∈ ns, 0 ≤ n) ∧ Sub M M1) ?step ?fin _ _ ⟨c, none, none, [], rfl, by rw [mupd_same]; rfl, rfl, by simp, Sub.new hp⟩
  case fin =>
    rintro ρ M1 ⟨l, x4, x5, ns, rfl, h1, h2, h3, h4⟩
    walk_at "mp"
    exact mkR p (.lst (ns.map .int)) _ ⟨ns, rfl, h3, fun c' k' e => by simp only [List.cons.injEq, D.int.injEq, and_true] at e; omega⟩ hp h1 h4
  case step =>
    rintro I mk i ρ M1 hi ⟨l, x4, x5, ns, rfl, h1, h2, h3, h4⟩
    have hki : i < k := by omega
    have szl := sizeLine_eq
    have fin : ∀ (v l' : Int) (x4 x5 : Option D), 0 ≤ v → I (i + 1) [some (.int c), some (.int (k : Int)), some (.ref p), some (.int l'), x4, x5] (mupd M1 p (.lst (ns.map .int ++ [.int v]))) := fun v l' x4 x5 hv =>
      mk _ _ _ ⟨l', x4, x5, ns ++ [v], rfl, by rw [mupd_same, List.map_append]; rfl, by simp [h2], fun n hn => by
        rcases List.mem_append.mp hn with hn | hn
        · exact h3 n hn
        · rw [List.mem_singleton.mp hn]; exact hv, h4.upd hp⟩
    have hlen : (ns.map D.int).length < sizeLine := by rw [List.length_map]; omega
    walk_at "mp"
    rw [show ((18 : Int).toNat) = 18 from rfl]
    refine ⟨⟨by decide, by decide, by decide⟩, ?_⟩
    simp only [ty_lst h1]
    have rest : CMul c 69621 → (∃ x, M1 p = some (.lst x) ∧ x.length < sizeLine ∧ True) := fun _ => ⟨_, h1, hlen, trivial⟩
    refine ⟨fun _ => ⟨fun _ => ⟨trivial, by decide, _, h1, hlen, cdiv_lit, fin _ _ _ _ (by omega)⟩, fun _ => ?_⟩, fun _ => ?_⟩
    · refine ⟨by walk_at "cm", by walk_at "cm", by decide, by walk_at "cm", by walk_at "cm", by walk_at "cm", by decide, by walk_at "cm", by walk_at "cm", by decide, trivial, cdiv_lit, by decide, _, h1, hlen, fin _ _ _ _ (by omega)⟩
    · refine ⟨by walk_at "cm", by walk_at "cm", by decide, by walk_at "cm", by walk_at "cm", by walk_at "cm", by decide, by walk_at "cm", by walk_at "cm", by decide, trivial, cdiv_lit, by decide, _, h1, hlen, fin _ _ _ _ (by omega)⟩
/-- the pool is made -/
def w__law_pool : WS :=
    sSeq (sAsg (wLst (aNil)) (gN 1))
    (sSeq (sFor (iR1 (aCons (wCB nMin2 (aCons (wC (.int 6)) (aCons (wCB nMax2 (aCons (wC (.int 1)) (aCons (wCB nLen (aCons (wVar 0) (aNil))) (aNil)))) (aNil)))) (aNil))) (gN 2) (sAsg (wOp rAdd (wVar 1) (wCB r__law_numbers (aCons (wOp rAdd (wCB r__law_cell (aCons (wVar 0) (aCons (wVar 2) (aNil)))) (wOp rMulA (wC (.int 11)) (wVar 2))) (aCons (wC (.int 24)) (aNil))))) (gN 1)))
    (sRet (wLst (aCons (wVar 1) (aCons (wLst (aCons (wC (.int 0)) (aNil))) (aNil))))))
def r__law_pool : WN := ⟨fun ds M Q => (∃ ns : List Int, ds = [.fl (ns.map .int)] ∧ ns.length ≤ 63) ∧ ∀ p r c, M p = none → M r = none → M c = none → r ≠ p → c ≠ p → r ≠ c → Q (.ref p) (mupd (mupd (mupd M r (.sub p)) c (.sub p)) p (.pool r c 0)), fun _ _ _ _ h q => ⟨q.1, fun p r c h1 h2 h3 h4 h5 h6 => h _ _ (q.2 p r c h1 h2 h3 h4 h5 h6)⟩⟩
theorem rel_refs2 {K : PySem.W.Frag} {H : Hp} {r c : Addr} {vs : List V} (h : RelDs K H [.ref r, .ref c] vs) : vs = [.ref r, .ref c] := by
  obtain ⟨v, u, rfl, a, b⟩ := rel2 h
  rw [rel_ref a, rel_ref b]
theorem Vw.pool {P : Program} {w : World} {K : PySem.W.Frag} {M M' : Mem} {p r c : Addr} {ns : List Int} (cn : Cons M) (s : Sub M M') (hp : M p = none) (hr : M r = none) (hc : M c = none) (n1 : r ≠ p) (n2 : c ≠ p) (n3 : r ≠ c) (e1 : M' p = some (.lst [.ref r, .ref c])) (e2 : M' r = some (.lst (ns.map .int))) (e3 : M' c = some (.lst [.int 0]))
    (h1 : ns ≠ [] ∧ ns.length ≤ 1000000) (h2 : ∀ n ∈ ns, 0 ≤ n) : Vw P w K M' (mupd (mupd (mupd M r (.sub p)) c (.sub p)) p (.pool r c 0)) := by
  have atR : mupd (mupd (mupd M r (.sub p)) c (.sub p)) p (.pool r c 0) r = some (.sub p) := by rw [mupd_ne n1, mupd_ne n3, mupd_same]
  have atC : mupd (mupd (mupd M r (.sub p)) c (.sub p)) p (.pool r c 0) c = some (.sub p) := by rw [mupd_ne n2, mupd_same]
  refine ⟨fun a h => ?_, fun H rm a o h => ?_⟩
  · rw [mupd_ne (fun z => by rw [z, e1] at h; cases h), mupd_ne (fun z => by rw [z, e3] at h; cases h), mupd_ne (fun z => by rw [z, e2] at h; cases h)]
    exact s.none h
  · by_cases ha : a = p
    · subst ha
      rw [mupd_same] at h; cases h
      obtain ⟨xs, hx, rx⟩ := rm _ _ e1
      obtain ⟨ys, hy, ry⟩ := rm _ _ e2
      obtain ⟨zs, hz, rz⟩ := rm _ _ e3
      rw [rel_refs2 rx] at hx
      rw [rel_ints ry] at hy
      rw [rel_ints (ns := [0]) rz] at hz
      exact ⟨ns, 0, hx, hy, hz, h1, h2, ⟨Int.le_refl _, Int.le_refl _⟩, n1, n2, n3, atR, atC⟩
    · rw [mupd_ne ha] at h
      by_cases hb : a = c
      · subst hb; rw [mupd_same] at h; cases h
        obtain ⟨zs, hz, rz⟩ := rm _ _ e3
        exact ⟨zs, hz⟩
      · rw [mupd_ne hb] at h
        by_cases hd : a = r
        · subst hd; rw [mupd_same] at h; cases h
          obtain ⟨zs, hz, rz⟩ := rm _ _ e2
          exact ⟨zs, hz⟩
        · rw [mupd_ne hd] at h
          have q := rm a o (s a o h)
          cases o with
          | pool r' c' n' =>
            obtain ⟨ns', t, e, er, ec, g1, g2, g3, g4, g5, g6, g7, g8⟩ := q
            obtain ⟨⟨k1, k2⟩, _⟩ := cn a r' c' n' h
            have keep : ∀ x q', M x = some (.sub q') → mupd (mupd (mupd M r (.sub p)) c (.sub p)) p (.pool r c 0) x = some (.sub q') := fun x q' hx => by
              rw [mupd_ne (fun z => by rw [z, hp] at hx; cases hx), mupd_ne (fun z => by rw [z, hc] at hx; cases hx), mupd_ne (fun z => by rw [z, hr] at hx; cases hx)]
              exact hx
            exact ⟨ns', t, e, er, ec, g1, g2, g3, g4, g5, g6, keep _ _ k1, keep _ _ k2⟩
          | lst ds => exact q
          | dic kvs => exact q
          | ins C fs => exact q
          | sub q' => exact q
theorem law__law_pool : FnLaw 3 1 w__law_pool r__law_pool := fun P w K H ds M Q rm ⟨⟨ns, e, hl⟩, q⟩ => by
  subst e
  refine ⟨rfl, M, rm, fun _ z => z, ?_⟩
  have cn := rm.cons
  have key : w__law_pool.f (rtE fun d M' => ∃ p r c zs, d = .ref p ∧ M p = none ∧ M r = none ∧ M c = none ∧ r ≠ p ∧ c ≠ p ∧ r ≠ c ∧ M' p = some (.lst [.ref r, .ref c]) ∧ M' r = some (.lst (List.map D.int zs)) ∧ M' c = some (.lst [.int 0]) ∧ (zs ≠ [] ∧ zs.length ≤ 1000000) ∧ (∀ n ∈ zs, 0 ≤ n) ∧ Sub M M') (startD 3 [.fl (ns.map .int)]) M := by
    obtain ⟨R, hR⟩ : ∃ R : D → Mem → Prop, R = fun d M' => ∃ p r c zs, d = .ref p ∧ M p = none ∧ M r = none ∧ M c = none ∧ r ≠ p ∧ c ≠ p ∧ r ≠ c ∧ M' p = some (.lst [.ref r, .ref c]) ∧ M' r = some (.lst (List.map D.int zs)) ∧ M' c = some (.lst [.int 0]) ∧ (zs ≠ [] ∧ zs.length ≤ 1000000) ∧ (∀ n ∈ zs, 0 ≤ n) ∧ Sub M M' := ⟨_, rfl⟩
    rw [← hR]
    unfold w__law_pool rtE
    walk_at "mp"
    refine ⟨by decide, fun p0 hp0 => ?_⟩
    rw [List.length_map]
    have many : ∃ k : Nat, (if (if ((ns.length : Nat) : Int) > 1 then ((ns.length : Nat) : Int) else 1) < 6 then (if ((ns.length : Nat) : Int) > 1 then ((ns.length : Nat) : Int) else 1) else (6 : Int)) = (k : Int) ∧ 1 ≤ k ∧ k ≤ 6 := by
      refine ⟨(if (if ((ns.length : Nat) : Int) > 1 then ((ns.length : Nat) : Int) else 1) < 6 then (if ((ns.length : Nat) : Int) > 1 then ((ns.length : Nat) : Int) else 1) else (6 : Int)).toNat, ?_, ?_, ?_⟩ <;> split <;> split <;> omega
    obtain ⟨k, ek, hk1, hk6⟩ := many
    rw [ek]
    refine ⟨by omega, by omega, ?_⟩
    refine loop_rng (lo := 0) (n := (k : Int).toNat) (fun i ρ M1 => ∃ (a : Addr) (x2 : Option D) (zs : List Int), ρ = [some (.fl (ns.map .int)), some (.ref a), x2] ∧ M a = none ∧ M1 a = some (.lst (zs.map .int)) ∧ zs.length = 24 * i ∧ (∀ n ∈ zs, 0 ≤ n) ∧ Sub M M1) ?step ?fin _ _ ⟨p0, none, [], rfl, hp0, by rw [mupd_same]; rfl, rfl, by simp, Sub.new hp0⟩
    case fin =>
      rintro ρ M1 ⟨a, x2, zs, rfl, ha, h1, h2, h3, h4⟩
      walk_at "mp"
      refine ⟨by decide, fun c hc => ⟨by decide, fun p hp => ?_⟩⟩
      rw [hR]
      have nca : a ≠ c := fun z => by rw [z, hc] at h1; cases h1
      have npc : c ≠ p := fun z => by rw [← z, mupd_same] at hp; cases hp
      have hp1 : M1 p = none := by rw [mupd_ne (Ne.symm npc)] at hp; exact hp
      have npa : a ≠ p := fun z => by rw [z, hp1] at h1; cases h1
      refine ⟨p, a, c, zs, rfl, h4.none hp1, ha, h4.none hc, npa, npc, nca, mupd_same, ?_, ?_, ⟨fun z => ?_, by omega⟩, h3, (h4.upd (h4.none hc)).upd (h4.none hp1)⟩
      · rw [mupd_ne npa, mupd_ne nca]; exact h1
      · rw [mupd_ne npc, mupd_same]
      · rw [z] at h2; simp at h2; omega
    case step =>
      rintro I mk i ρ M1 hi ⟨a, x2, zs, rfl, ha, h1, h2, h3, h4⟩
      have hki : i < k := by omega
      walk_at "mp"
      rw [r__law_cell, e_nSome]
      refine ⟨⟨ns, (i : Int), by simp, by omega⟩, ?_⟩
      rintro _ ⟨m, rfl⟩
      walk_at "mp"
      refine ⟨by walk_at "cm", ?_⟩
      rw [r__law_numbers, e_nNewS]
      refine ⟨⟨_, 24, rfl, by decide⟩, ?_⟩
      rintro _ ⟨ys, rfl, hy, hyl⟩ b hb
      walk_at "mp"
      have hyl := hyl _ 24 rfl
      have nab : a ≠ b := fun z => by rw [z, hb] at h1; cases h1
      refine ⟨zs.map .int, by rw [mupd_ne nab]; exact h1, ys.map .int, mupd_same, by rw [List.length_map, List.length_map, sizeLine_eq]; omega, fun x hx => ?_⟩
      have nbx : b ≠ x := fun z => by rw [← z, mupd_same] at hx; cases hx
      have hx1 : M1 x = none := by rw [mupd_ne (Ne.symm nbx)] at hx; exact hx
      refine mk _ _ _ ⟨x, _, zs ++ ys, rfl, h4.none hx1, by rw [mupd_same, List.map_append], by rw [List.length_append]; omega, fun n hn => ?_, (h4.upd (h4.none hb)).upd (h4.none hx1)⟩
      rcases List.mem_append.mp hn with hn | hn
      · exact h3 n hn
      · exact hy n hn
  refine w__law_pool.mono (rtE _) _ _ _ ?_ key
  refine ⟨fun _ M' z => ?_, fun d M' z => ?_, fun _ _ z => z, fun _ _ z => z⟩
  · obtain ⟨p, r, c, zs, e, _⟩ := z; cases e
  · obtain ⟨p, r, c, zs, rfl, h1, h2, h3, h4, h5, h6, h7, h8, h9, h10, h11, h12⟩ := z
    exact ⟨_, Vw.pool cn h12 h1 h2 h3 h4 h5 h6 h7 h8 h9 h10 h11, q p r c h1 h2 h3 h4 h5 h6⟩
/-- the pool is asked -/
def w__law_draw : WS :=
    sSeq (sAsg (wOp rIx (wOp rIx (wVar 0) (wC (.int 1))) (wC (.int 0))) (gN 2))
    (sSeq (sAsg (wOp rAdd (wVar 2) (wC (.int 1))) (gSubD (wOp rIx (wVar 0) (wC (.int 1))) (wC (.int 0))))
    (sSeq (sAsg (wOp rFdiv (wVar 2) (wCB nLen (aCons (wOp rIx (wVar 0) (wC (.int 0))) (aNil)))) (gN 3))
    (sRet (wOp rMod (wCB nInt (aCons (wOp rAdd (wOp rAdd (wOp rIx (wOp rIx (wVar 0) (wC (.int 0))) (wOp rMod (wVar 2) (wCB nLen (aCons (wOp rIx (wVar 0) (wC (.int 0))) (aNil))))) (wOp rMulA (wVar 3) (wC (.int 1013)))) (wOp rMulA (wOp rMulA (wVar 3) (wVar 2)) (wC (.int 7)))) (aNil))) (wVar 1)))))
def r__law_draw : WN := nDr 1 (fun ds _ => ∃ (p : Addr) (m : Int), ds = [.ref p, .int m] ∧ 0 < m) fun ds _ d => ∃ (p : Addr) (m i : Int), ds = [.ref p, .int m] ∧ d = .int i ∧ 0 ≤ i ∧ i < m
theorem draw_at {p r c : Addr} {n : Nat} {m : Int} {M : Mem} {Q : D → Mem → Prop} (h : M p = some (.pool r c n)) : r__law_draw.f [.ref p, .int m] M Q = (n + 1 ≤ 1000000000 ∧ 0 < m ∧ ∀ i : Int, 0 ≤ i → i < m → Q (.int i) (mupd M p (.pool r c (n + 1)))) := by
  rw [r__law_draw, dr_pool h]
  refine propext ⟨fun ⟨h1, ⟨p', m', e, h2⟩, h3⟩ => ?_, fun ⟨h1, h2, h3⟩ => ⟨h1, ⟨p, m, rfl, h2⟩, fun d hd => ?_⟩⟩
  · simp only [List.cons.injEq, D.ref.injEq, D.int.injEq, and_true] at e
    obtain ⟨rfl, rfl⟩ := e
    exact ⟨h1, h2, fun i hi1 hi2 => h3 _ ⟨p, m, i, rfl, rfl, hi1, hi2⟩⟩
  · obtain ⟨p', m', i, e, rfl, hi1, hi2⟩ := hd
    simp only [List.cons.injEq, D.ref.injEq, D.int.injEq, and_true] at e
    obtain ⟨rfl, rfl⟩ := e
    exact h3 i hi1 hi2
theorem atI_some {α : Type} {xs : List α} {i : Int} (h0 : 0 ≤ i) (h1 : i < xs.length) : ∃ x, atI xs i = some x ∧ x ∈ xs := by
  obtain ⟨m, rfl⟩ : ∃ m : Nat, i = m := ⟨i.toNat, by omega⟩
  have hm : m < xs.length := by omega
  exact ⟨xs[m], atI_nat (List.getElem?_eq_getElem hm), List.getElem_mem hm⟩
theorem law__law_draw : FnLaw 4 2 w__law_draw r__law_draw := fun P w K H ds M Q rm ⟨p, r, c, n, rest, e1, e2, e3, ⟨p', m, e4, hm⟩, q⟩ => by
  subst e1
  simp only [List.cons.injEq, D.ref.injEq] at e4
  obtain ⟨rfl, rfl⟩ := e4
  obtain ⟨ns, t, hp, hr, hc, g1, g2, g3, n1, n2, n3, s1, s2⟩ := rm p _ e2
  have q : ∀ i : Int, 0 ≤ i → i < m → Q (.int i) (mupd M p (.pool r c (n + 1))) := fun i h1 h2 => q _ ⟨p, m, i, rfl, rfl, h1, h2⟩
  obtain ⟨M0, eM⟩ : ∃ M0, M0 = mupd (mupd (mupd M p (.lst [.ref r, .ref c])) r (.lst (ns.map .int))) c (.lst [.int t]) := ⟨_, rfl⟩
  have oth : ∀ a, a ≠ p → a ≠ r → a ≠ c → M0 a = M a := fun a h1 h2 h3 => by rw [eM, mupd_ne h3, mupd_ne h2, mupd_ne h1]
  have atP : M0 p = some (.lst [.ref r, .ref c]) := by rw [eM, mupd_ne (Ne.symm n2), mupd_ne (Ne.symm n1), mupd_same]
  have atR : M0 r = some (.lst (ns.map .int)) := by rw [eM, mupd_ne n3, mupd_same]
  have atC : M0 c = some (.lst [.int t]) := by rw [eM, mupd_same]
  have cn := rm.cons
  have rints : ∀ zs : List Int, RelDs K H (zs.map D.int) (zs.map V.int) := fun zs => by
    induction zs with
    | nil => exact .nil
    | cons z zs ih => exact .cons (.int z) ih
  have rm0 : RelM P w K H M0 := fun a o h => by
    by_cases h1 : a = p
    · subst h1; rw [atP] at h; cases h; exact ⟨_, hp, .cons (.ref r) (.cons (.ref c) .nil)⟩
    · by_cases h2 : a = r
      · subst h2; rw [atR] at h; cases h; exact ⟨_, hr, rints ns⟩
      · by_cases h3 : a = c
        · subst h3; rw [atC] at h; cases h; exact ⟨_, hc, .cons (.int t) .nil⟩
        · rw [oth a h1 h2 h3] at h
          have z := rm a o h
          cases o with
          | pool r' c' n' =>
            obtain ⟨ns', t', e, er, ec, k1, k2, k3, k4, k5, k6, k7, k8⟩ := z
            have keep : ∀ x, M x = some (.sub a) → M0 x = some (.sub a) := fun x hx => by
              rw [oth x (fun y => by rw [y, e2] at hx; cases hx) (fun y => by rw [y, s1] at hx; cases hx; exact h1 rfl) (fun y => by rw [y, s2] at hx; cases hx; exact h1 rfl)]
              exact hx
            exact ⟨ns', t', e, er, ec, k1, k2, k3, k4, k5, k6, keep _ k7, keep _ k8⟩
          | lst ds => exact z
          | dic kvs => exact z
          | ins C fs => exact z
          | sub q' => exact z
  refine ⟨rfl, M0, rm0, fun a h => ?_, ?_⟩
  · by_cases h1 : a = p
    · subst h1; rw [e2] at h; cases h
    · by_cases h2 : a = r
      · subst h2; rw [s1] at h; cases h
      · by_cases h3 : a = c
        · subst h3; rw [s2] at h; cases h
        · rw [oth a h1 h2 h3]; exact h
  have key : w__law_draw.f (rtE fun d M' => ∃ i, d = .int i ∧ 0 ≤ i ∧ i < m ∧ M' = mupd M0 c (.lst [.int (t + 1)])) (startD 4 [.ref p, .int m]) M0 := by
    obtain ⟨R, hR⟩ : ∃ R : D → Mem → Prop, R = fun d M' => ∃ i, d = .int i ∧ 0 ≤ i ∧ i < m ∧ M' = mupd M0 c (.lst [.int (t + 1)]) := ⟨_, rfl⟩
    rw [← hR]
    unfold w__law_draw rtE
    walk_at "mp"
    repeat (first | simp only [ix_lst atP, ix_lst atC, put_lst atC] | walk_at "mp1")
    refine ⟨0, by decide, ?_⟩
    have atP' : mupd M0 c (.lst [.int (t + 1)]) p = some (.lst [.ref r, .ref c]) := by rw [mupd_ne (Ne.symm n2)]; exact atP
    have atR' : mupd M0 c (.lst [.int (t + 1)]) r = some (.lst (ns.map .int)) := by rw [mupd_ne n3]; exact atR
    walk_at "mp"
    repeat (first | simp only [ix_lst atP', len_lst atR', ix_lst atR', List.length_map] | walk_at "mp1")
    have hpos : 0 < ns.length := List.length_pos_iff.mpr g1.1
    have hmod : 0 ≤ t % (ns.length : Int) ∧ t % (ns.length : Int) < ns.length := ⟨Int.emod_nonneg _ (by omega), Int.emod_lt_of_pos _ (by omega)⟩
    obtain ⟨x, hx, hxm⟩ := atI_some (xs := ns.map D.int) hmod.1 (by rw [List.length_map]; exact hmod.2)
    obtain ⟨v, _, rfl⟩ := List.mem_map.mp hxm
    have hdiv : 0 ≤ t / (ns.length : Int) ∧ t / (ns.length : Int) ≤ t := ⟨Int.ediv_nonneg g3.1 (by omega), Int.ediv_le_self _ g3.1⟩
    refine ⟨⟨by omega, by omega⟩, by omega, _, hx, ?_⟩
    walk_at "mp"
    refine ⟨by walk_at "cm", by walk_at "cm", by walk_at "cm", hm, ?_⟩
    rw [hR]
    exact ⟨_, rfl, Int.emod_nonneg _ (by omega), Int.emod_lt_of_pos _ hm, rfl⟩
  refine w__law_draw.mono (rtE _) _ _ _ ?_ key
  have vw : Vw P w K (mupd M0 c (.lst [.int (t + 1)])) (mupd M p (.pool r c (n + 1))) := by
    have cP : mupd M0 c (.lst [.int (t + 1)]) p = some (.lst [.ref r, .ref c]) := by rw [mupd_ne (Ne.symm n2)]; exact atP
    have cR : mupd M0 c (.lst [.int (t + 1)]) r = some (.lst (ns.map .int)) := by rw [mupd_ne n3]; exact atR
    have cC : mupd M0 c (.lst [.int (t + 1)]) c = some (.lst [.int (t + 1)]) := mupd_same
    have cO : ∀ a, a ≠ p → a ≠ r → a ≠ c → mupd M0 c (.lst [.int (t + 1)]) a = M a := fun a h1 h2 h3 => by rw [mupd_ne h3]; exact oth a h1 h2 h3
    have cn' := cn.ask (m := n + 1) e2
    refine ⟨fun a h => ?_, fun H' rm' a o h => ?_⟩
    · have h1 : a ≠ p := fun z => by rw [z, cP] at h; cases h
      have h2 : a ≠ r := fun z => by rw [z, cR] at h; cases h
      have h3 : a ≠ c := fun z => by rw [z, cC] at h; cases h
      rw [mupd_ne h1, ← cO a h1 h2 h3]; exact h
    · by_cases h1 : a = p
      · subst h1; rw [mupd_same] at h; cases h
        obtain ⟨xs, hx, rx⟩ := rm' _ _ cP
        obtain ⟨ys, hy, ry⟩ := rm' _ _ cR
        obtain ⟨zs, hz, rz⟩ := rm' _ _ cC
        rw [rel_refs2 rx] at hx
        rw [rel_ints ry] at hy
        rw [rel_ints (ns := [t + 1]) rz] at hz
        exact ⟨ns, t + 1, hx, hy, hz, g1, g2, ⟨by omega, by omega⟩, n1, n2, n3, by rw [mupd_ne n1]; exact s1, by rw [mupd_ne n2]; exact s2⟩
      · rw [mupd_ne h1] at h
        by_cases h2 : a = r
        · subst h2; rw [s1] at h; cases h
          obtain ⟨ys, hy, ry⟩ := rm' _ _ cR
          exact ⟨ys, hy⟩
        · by_cases h3 : a = c
          · subst h3; rw [s2] at h; cases h
            obtain ⟨zs, hz, rz⟩ := rm' _ _ cC
            exact ⟨zs, hz⟩
          · have z := rm' a o (by rw [cO a h1 h2 h3]; exact h)
            cases o with
            | pool r' c' n' =>
              obtain ⟨ns', t', e, er, ec, k1, k2, k3, k4, k5, k6, k7, k8⟩ := z
              have w1 := cn' a r' c' n' (by rw [mupd_ne h1]; exact h)
              exact ⟨ns', t', e, er, ec, k1, k2, k3, k4, k5, k6, w1.1.1, w1.1.2⟩
            | lst ds => exact z
            | dic kvs => exact z
            | ins C fs => exact z
            | sub q' => exact z
  refine ⟨fun _ M' z => ?_, fun d M' z => ?_, fun _ _ z => z, fun _ _ z => z⟩
  · obtain ⟨i, e, _⟩ := z; cases e
  · obtain ⟨i, rfl, h1, h2, rfl⟩ := z
    exact ⟨_, vw, q i h1 h2⟩
/-- what kind a datum is of -/
def w__law_kind : WS :=
    sSeq (sIf (wtB (wCB nIsi (aCons (wVar 0) (aCons (wC (.ty "bool")) (aNil))))) (sRet (wC (.int 1))) (sNil))
    (sSeq (sIf (wtB (wCB nIsi (aCons (wVar 0) (aCons (wC (.ty "int")) (aNil))))) (sRet (wC (.int 2))) (sNil))
    (sSeq (sIf (wtB (wCB nIsi (aCons (wVar 0) (aCons (wC (.ty "str")) (aNil))))) (sRet (wC (.int 3))) (sNil))
    (sSeq (sIf (wtB (wCB nIsi (aCons (wVar 0) (aCons (wC (.ty "tuple")) (aNil))))) (sRet (wC (.int 4))) (sNil))
    (sSeq (sIf (wtB (wCB nIsi (aCons (wVar 0) (aCons (wC (.ty "list")) (aNil))))) (sRet (wC (.int 5))) (sNil))
    (sSeq (sIf (wtB (wOp rIs (wVar 0) (wC .non))) (sRet (wC (.int 6))) (sNil))
    (sRet (wC (.int 0))))))))
def kindN (t : String) : Int := if t = "bool" then 1 else if t = "int" then 2 else if t = "str" then 3 else if t = "tuple" then 4 else if t = "list" then 5 else if t = "NoneType" then 6 else 0
def kindD (d : D) (M : Mem) : Int := match tyName d M with
  | some t => kindN t
  | none => 0
def hasTy (d : D) (M : Mem) : Prop := ∃ t, tyName d M = some t ∧ (t = "bool" ∨ t = "int" ∨ t = "str" ∨ t = "tuple" ∨ t = "list" ∨ t = "NoneType")
def r__law_kind : WN := nPure (fun ds M => ∃ d, ds = [d] ∧ hasTy d M) fun ds M => .int (match ds with | [d] => kindD d M | _ => 0)
theorem kind_at {d : D} {M : Mem} {Q : D → Mem → Prop} : r__law_kind.f [d] M Q = (hasTy d M ∧ Q (.int (kindD d M)) M) := propext ⟨fun ⟨⟨d', e, h⟩, q⟩ => by cases e; exact ⟨h, q⟩, fun ⟨h, q⟩ => ⟨⟨d, rfl, h⟩, q⟩⟩
theorem isNon_ty {d : D} {M : Mem} {t : String} (h : tyName d M = some t) (n : t ≠ "NoneType") : d.isNon = false := by
  cases d <;> first | rfl | (simp only [tyName, Option.some.injEq] at h; exact absurd h.symm n)
theorem isNon_ty' {d : D} {M : Mem} (h : tyName d M = some "NoneType") : d.isNon = true := by
  cases d <;> simp [tyName] at h <;> first | rfl | (split at h <;> simp at h)
theorem law__law_kind : FnLaw 1 1 w__law_kind r__law_kind := law_pure fun ds M cn ⟨d, e, t, ht, hh⟩ => by
  subst e
  refine ⟨rfl, ?_⟩
  have kd : kindD d M = kindN t := by simp only [kindD, ht]
  intro R mk
  unfold w__law_kind rtE
  have mk : ∀ i, kindD d M = i → R (.int i) M := fun i e => by subst e; exact mk _ Sub.refl
  walk_at "mp"
  simp only [kd, ht, Option.some.injEq, exists_eq_left']
  rcases hh with rfl | rfl | rfl | rfl | rfl | rfl <;> walk_at "mp" <;> first
    | exact mk _ kd
    | (simp only [isNon_ty' ht]; walk_at "mp1"; exact mk _ kd)
def w__law_int : WS :=
    sRet (wAnd (wOp rEq (wCB r__law_kind (aCons (wVar 0) (aNil))) (wC (.int 2))) (wChain rLe rLe (wVar 1) (wVar 0) (wVar 2)))
def r__law_int : WN := nPure (fun ds M => ∃ (x l h : Int), ds = [.int x, .int l, .int h]) fun ds M => match ds with | [.int x, .int l, .int h] => .bl (decide (l ≤ x) && decide (x ≤ h)) | _ => .non
theorem int_at {x l h : Int} {M : Mem} {Q : D → Mem → Prop} : r__law_int.f [.int x, .int l, .int h] M Q = Q (.bl (decide (l ≤ x) && decide (x ≤ h))) M := propext ⟨fun ⟨_, q⟩ => q, fun q => ⟨⟨x, l, h, rfl⟩, q⟩⟩
theorem law__law_int : FnLaw 3 3 w__law_int r__law_int := law_pure fun ds M cn ⟨x, l, h, e⟩ => by
  subst e
  refine ⟨rfl, ?_⟩
  intro R mk
  unfold w__law_int rtE
  walk_at "mp"
  simp only [kind_at, kindD, tn_int, kindN]
  refine ⟨⟨_, rfl, .inr (.inl rfl)⟩, ?_⟩
  walk_at "mp"
  have mk : ∀ c, (decide (l ≤ x) && decide (x ≤ h)) = c → R (.bl c) M := fun c e => by subst e; exact mk _ Sub.refl
  exact ⟨fun _ => ⟨fun h1 => mk _ (by simp [h1]), fun h1 => mk _ (by simp [h1])⟩, fun z => absurd rfl z⟩
/-- strictly ascending -/
def w__law_up : WS :=
    sSeq (sFor (iR2 (aCons (wC (.int 1)) (aCons (wCB nLen (aCons (wVar 0) (aNil))) (aNil)))) (gN 1) (sIf (wtNot (wtB (wOp rLt (wOp rIx (wVar 0) (wOp rSub (wVar 1) (wC (.int 1)))) (wOp rIx (wVar 0) (wVar 1))))) (sRet (wC (.bl false))) (sNil)))
    (sRet (wC (.bl true)))
def okLt (x y : D) : Prop := (∃ i j, x = .tup i ∧ y = .tup j) ∧ PySem.W.alike x.py y.py = true ∧ min x.dep y.dep ≤ 60 ∧ x.pl ∧ y.pl
def upB : List D → Bool
  | [] => true
  | [_] => true
  | x :: y :: r => ltD x y && upB (y :: r)
theorem upB_iff : ∀ xs : List D, upB xs = true ↔ ∀ (j : Nat) (x y : D), xs[j]? = some x → xs[j + 1]? = some y → ltD x y = true
  | [] => by simp [upB]
  | [x] => by
    simp only [upB, true_iff]
    intro j a b h1 h2
    rw [List.getElem?_eq_none (by simp)] at h2; cases h2
  | x :: y :: r => by
    rw [upB, Bool.and_eq_true, upB_iff (y :: r)]
    constructor
    · rintro ⟨h1, h2⟩ j a b e1 e2
      cases j with
      | zero => simp at e1 e2; rw [← e1, ← e2]; exact h1
      | succ j => exact h2 j a b (by simpa using e1) (by simpa using e2)
    · intro h
      exact ⟨h 0 x y rfl rfl, fun j a b e1 e2 => h (j + 1) a b (by simpa using e1) (by simpa using e2)⟩
def upG (ds : List D) (M : Mem) : D := match ds with | [.ref a] => (match M a with | some (.lst xs) => .bl (upB xs) | _ => .non) | _ => .non
theorem upG_eq {a : Addr} {xs : List D} {M : Mem} (h : M a = some (.lst xs)) : upG [.ref a] M = .bl (upB xs) := by simp only [upG, h]
def r__law_up : WN := nPure (fun ds M => ∃ (a : Addr) (xs : List D), ds = [.ref a] ∧ M a = some (.lst xs) ∧ xs.length ≤ 1000000 ∧ ∀ x ∈ xs, ∀ y ∈ xs, okLt x y) upG
theorem up_at {a : Addr} {xs : List D} {M : Mem} {Q : D → Mem → Prop} (h : M a = some (.lst xs)) (h1 : xs.length ≤ 1000000) (h2 : ∀ x ∈ xs, ∀ y ∈ xs, okLt x y) : r__law_up.f [.ref a] M Q = Q (.bl (upB xs)) M := by
  rw [r__law_up, e_nPure, upG_eq h]
  exact propext ⟨fun ⟨_, q⟩ => q, fun q => ⟨⟨a, xs, rfl, h, h1, h2⟩, q⟩⟩
theorem law__law_up : FnLaw 2 1 w__law_up r__law_up := law_pure fun ds M cn ⟨a, xs, e, ha, hl, hok⟩ => by
  subst e
  refine ⟨rfl, ?_⟩
  rw [upG_eq ha]
  intro R mkR
  have mkR : ∀ c, upB xs = c → R (.bl c) M := fun c e => by subst e; exact mkR _ Sub.refl
  unfold w__law_up rtE
  walk_at "mp"
  simp only [len_lst ha]
  refine ⟨⟨by decide, by decide, by omega, by omega⟩, ?_⟩
  refine loop_rng (lo := 1) (n := (((xs.length : Nat) : Int) - 1).toNat) (fun i ρ M1 => ∃ x1, ρ = [some (.ref a), x1] ∧ M1 = M ∧ ∀ (j : Nat) (x y : D), j < i → xs[j]? = some x → xs[j + 1]? = some y → ltD x y = true) ?step ?fin _ _ ⟨none, rfl, rfl, fun j x y h => absurd h (by omega)⟩
  case fin =>
    rintro ρ M1 ⟨x1, rfl, rfl, h⟩
    walk_at "mp"
    refine mkR _ ((upB_iff xs).mpr fun j x y e1 e2 => h j x y ?_ e1 e2)
    have := (List.getElem?_eq_some_iff.mp e2).1
    omega
  case step =>
    rintro I mk i ρ M1 hi ⟨x1, rfl, rfl, h⟩
    have h0 : i + 1 < xs.length := by omega
    walk_at "mp"
    simp only [ix_lst ha]
    have e1 : atI xs (1 + (i : Int) - 1) = some xs[i] := by
      rw [show (1 + (i : Int) - 1) = ((i : Nat) : Int) by omega]
      exact atI_nat (List.getElem?_eq_getElem (by omega))
    have e2 : atI xs (1 + (i : Int)) = some xs[i + 1] := by
      rw [show (1 + (i : Int)) = ((i + 1 : Nat) : Int) by omega]
      exact atI_nat (List.getElem?_eq_getElem h0)
    rw [e1]
    refine ⟨_, rfl, ?_⟩
    rw [e2]
    refine ⟨_, rfl, ?_⟩
    have ok := hok xs[i] (List.getElem_mem _) xs[i + 1] (List.getElem_mem _)
    obtain ⟨⟨u, v, eu, ev⟩, k1, k2, k3, k4⟩ := ok
    have e3 : xs[i]? = some (.tup u) := by rw [List.getElem?_eq_getElem (by omega), eu]
    have e4 : xs[i + 1]? = some (.tup v) := by rw [List.getElem?_eq_getElem h0, ev]
    rw [eu, ev] at k1 k2
    rw [eu] at k3
    rw [ev] at k4
    rw [eu, ev]
    walk_at "mp"
    refine ⟨k1, by simp [D.py], k2, k3, k4, fun hlt => ?_, fun hlt => mk _ _ _ ⟨_, rfl, rfl, fun j x y hj g1 g2 => ?_⟩⟩
    · have : ¬ upB xs = true := fun z => by
        have := (upB_iff xs).mp z i _ _ e3 e4
        rw [this] at hlt; exact absurd hlt (by decide)
      exact mkR _ (Bool.eq_false_iff.mpr this)
    · by_cases hji : j < i
      · exact h j x y hji g1 g2
      · have : j = i := by omega
        subst this
        rw [e3] at g1; cases g1
        rw [e4] at g2; cases g2
        simpa using hlt
def w__law_gcd : WS :=
    sSeq (sAsg (wCB nAbs (aCons (wVar 0) (aNil))) (gN 0))
    (sSeq (sFor (iR1 (aCons (wC (.int 20000)) (aNil))) (gN 2) (sSeq (sIf (wtB (wOp rEq (wVar 1) (wC (.int 0)))) (sRet (wVar 0)) (sNil))
    (sSeq (sAsg (wOp rMod (wCB nInt (aCons (wVar 0) (aNil))) (wVar 1)) (gN 3))
    (sSeq (sAsg (wVar 1) (gN 0))
    (sAsg (wVar 3) (gN 1))))))
    (sRet (wVar 0)))
def r__law_gcd : WN := nPure (fun ds _ => ∃ (a b : Int), ds = [.int a, .int b] ∧ 0 ≤ a ∧ 0 ≤ b ∧ b < 20000) fun ds _ => match ds with | [.int a, .int b] => .int (Int.gcd a b) | _ => .non
theorem gcd_at {a b : Int} {M : Mem} {Q : D → Mem → Prop} : r__law_gcd.f [.int a, .int b] M Q = ((0 ≤ a ∧ 0 ≤ b ∧ b < 20000) ∧ Q (.int (Int.gcd a b)) M) := propext ⟨fun ⟨⟨x, y, e, h⟩, q⟩ => by cases e; exact ⟨h, q⟩, fun ⟨h, q⟩ => ⟨⟨a, b, rfl, h⟩, q⟩⟩
theorem gcd_step {x y : Int} (hx : 0 ≤ x) (hy : 0 < y) : Int.gcd y (x % y) = Int.gcd x y := by
  obtain ⟨a, rfl⟩ : ∃ a : Nat, x = a := ⟨x.toNat, by omega⟩
  obtain ⟨b, rfl⟩ : ∃ b : Nat, y = b := ⟨y.toNat, by omega⟩
  rw [← Int.natCast_emod]
  show Nat.gcd b (a % b) = Nat.gcd a b
  rw [Nat.gcd_comm b, ← Nat.gcd_rec, Nat.gcd_comm]
theorem law__law_gcd : FnLaw 4 2 w__law_gcd r__law_gcd := law_pure fun ds M cn ⟨a, b, e, ha, hb, hb2⟩ => by
  subst e
  refine ⟨rfl, ?_⟩
  intro R mkR
  have mkR : ∀ c, (Int.gcd a b : Int) = c → R (.int c) M := fun c e => by subst e; exact mkR _ Sub.refl
  unfold w__law_gcd rtE
  walk_at "mp"
  refine ⟨by decide, by decide, ?_⟩
  rw [if_neg (by omega)]
  refine loop_rng (lo := 0) (n := (20000 : Int).toNat) (fun i ρ M1 => ∃ (x y : Int) (x2 x3 : Option D), ρ = [some (.int x), some (.int y), x2, x3] ∧ M1 = M ∧ 0 ≤ x ∧ 0 ≤ y ∧ Int.gcd x y = Int.gcd a b ∧ y + i ≤ b) ?step ?fin _ _ ⟨a, b, none, none, rfl, rfl, ha, hb, rfl, by omega⟩
  case fin =>
    rintro ρ M1 ⟨x, y, x2, x3, rfl, rfl, h1, h2, h3, h4⟩
    exact absurd h4 (by have : ((20000 : Int).toNat) = 20000 := rfl; rw [this]; omega)
  case step =>
    rintro I mk i ρ M1 hi ⟨x, y, x2, x3, rfl, rfl, h1, h2, h3, h4⟩
    walk_at "mp"
    refine ⟨fun hy => ?_, fun hy => ?_⟩
    · subst hy
      refine mkR _ ?_
      rw [← h3, Int.gcd_zero_right]
      omega
    · have hy' : 0 < y := by omega
      have hm : 0 ≤ x % y ∧ x % y < y := ⟨Int.emod_nonneg _ (by omega), Int.emod_lt_of_pos _ hy'⟩
      exact ⟨hy', mk _ _ _ ⟨y, x % y, _, _, rfl, rfl, h2, hm.1, by rw [gcd_step h1 hy', h3], by omega⟩⟩
def w__law_moment : WS :=
    sSeq (sAsg (wCB nMax2 (aCons (wC (.int 1)) (aCons (wCB r__law_gcd (aCons (wVar 0) (aCons (wVar 1) (aNil)))) (aNil)))) (gN 2))
    (sRet (wTup (aCons (wOp rFdiv (wVar 0) (wVar 2)) (aCons (wOp rFdiv (wVar 1) (wVar 2)) (aNil)))))
/-- p / q in least terms -/
def momF (p q : Int) : Int × Int := (p / (Int.gcd p q : Int), q / (Int.gcd p q : Int))
def r__law_moment : WN := nPure (fun ds _ => ∃ (p q : Int), ds = [.int p, .int q] ∧ 0 ≤ p ∧ 0 < q ∧ q < 20000) fun ds _ => match ds with | [.int p, .int q] => ipD (momF p q) | _ => .non
theorem mom_at {p q : Int} {M : Mem} {Q : D → Mem → Prop} : r__law_moment.f [.int p, .int q] M Q = ((0 ≤ p ∧ 0 < q ∧ q < 20000) ∧ Q (ipD (momF p q)) M) := propext ⟨fun ⟨⟨x, y, e, h⟩, z⟩ => by cases e; exact ⟨h, z⟩, fun ⟨h, z⟩ => ⟨⟨p, q, rfl, h⟩, z⟩⟩
theorem law__law_moment : FnLaw 3 2 w__law_moment r__law_moment := law_pure fun ds M cn ⟨p, q, e, hp, hq, hq2⟩ => by
  subst e
  refine ⟨rfl, ?_⟩
  have g1 : 0 < Int.gcd p q := Int.gcd_pos_of_ne_zero_right _ (by omega)
  have g2 : (Int.gcd p q : Int) ≤ q := Int.le_of_dvd hq (Int.gcd_dvd_right ..)
  have e1 : (if (Int.gcd p q : Int) > 1 then (Int.gcd p q : Int) else 1) = (Int.gcd p q : Int) := by split <;> omega
  intro R mk
  unfold w__law_moment rtE
  walk_at "mp"
  simp only [gcd_at]
  walk_at "mp"
  rw [e1]
  exact ⟨⟨hp, by omega, hq2⟩, ⟨by omega, by omega⟩, ⟨by omega, by omega⟩, by decide, mk _ Sub.refl⟩
def w__law_fraction : WS :=
    sSeq (sAsg (wOp rAdd (wC (.int 1)) (wCB r__law_draw (aCons (wVar 0) (aCons (wC (.int 4)) (aNil))))) (gN 2))
    (sRet (wCB r__law_moment (aCons (wCB r__law_draw (aCons (wVar 0) (aCons (wOp rAdd (wOp rMulA (wVar 1) (wVar 2)) (wC (.int 1))) (aNil)))) (aCons (wVar 2) (aNil)))))
def r__law_fraction : WN := nDr 2 (fun ds _ => ∃ (p : Addr) (m : Int), ds = [.ref p, .int m] ∧ 0 ≤ m ∧ m ≤ 1000) fun ds _ d => ∃ (p : Addr) (m u v : Int), ds = [.ref p, .int m] ∧ d = ipD (momF u v) ∧ 0 ≤ u ∧ u ≤ m * v ∧ 1 ≤ v ∧ v ≤ 4
theorem frac_at {p r c : Addr} {n : Nat} {m : Int} {M : Mem} {Q : D → Mem → Prop} (h : M p = some (.pool r c n)) : r__law_fraction.f [.ref p, .int m] M Q = (n + 2 ≤ 1000000000 ∧ (0 ≤ m ∧ m ≤ 1000) ∧ ∀ u v : Int, 0 ≤ u → u ≤ m * v → 1 ≤ v → v ≤ 4 → Q (ipD (momF u v)) (mupd M p (.pool r c (n + 2)))) := by
  rw [r__law_fraction, dr_pool h]
  refine propext ⟨fun ⟨h1, ⟨p', m', e, h2⟩, h3⟩ => ?_, fun ⟨h1, h2, h3⟩ => ⟨h1, ⟨p, m, rfl, h2⟩, fun d hd => ?_⟩⟩
  · simp only [List.cons.injEq, D.ref.injEq, D.int.injEq, and_true] at e
    obtain ⟨rfl, rfl⟩ := e
    exact ⟨h1, h2, fun u v a1 a2 a3 a4 => h3 _ ⟨p, m, u, v, rfl, rfl, a1, a2, a3, a4⟩⟩
  · obtain ⟨p', m', u, v, e, rfl, a1, a2, a3, a4⟩ := hd
    simp only [List.cons.injEq, D.ref.injEq, D.int.injEq, and_true] at e
    obtain ⟨rfl, rfl⟩ := e
    exact h3 u v a1 a2 a3 a4
theorem law__law_fraction : FnLaw 3 2 w__law_fraction r__law_fraction := law_dr fun p r c m rest M cn hp hb ⟨p', most, e, h1, h2⟩ => by
  simp only [List.cons.injEq, D.ref.injEq] at e
  obtain ⟨rfl, rfl⟩ := e
  refine ⟨rfl, ?_⟩
  intro R mk
  unfold w__law_fraction rtE
  walk_at "mp"
  simp only [draw_at hp]
  refine ⟨by omega, by decide, fun i hi0 hi4 => ?_⟩
  walk_at "mp"
  have hp1 : mupd M p (.pool r c (m + 1)) p = some (.pool r c (m + 1)) := mupd_same
  have hnn : 0 ≤ most * (1 + i) := Int.mul_nonneg h1 (by omega)
  refine ⟨by walk_at "cm", ?_⟩
  simp only [draw_at hp1]
  refine ⟨by omega, by omega, fun u hu0 hu => ?_⟩
  simp only [mom_at]
  exact ⟨⟨hu0, by omega, by omega⟩, mk _ _ ⟨p, most, u, 1 + i, rfl, rfl, hu0, by omega, by omega, by omega⟩ (((DrS.refl hp).ask (k := 1) hp).ask (k := 1) hp1)⟩
end MP

namespace K05
open PySem PySem.Spec PyProof.Rows L2 MP
/-! what the defs of this law compute, and what they promise -/
abbrev PR := Int × Int
def okM (x : PR) : Prop := 0 ≤ x.1 ∧ x.1 < 1000000 ∧ 0 < x.2 ∧ x.2 < 20000
def lessF (o p : PR) : Bool := decide (o.1 * p.2 < p.1 * o.2)
def dedupF : List PR → List PR → List PR
  | acc, [] => acc
  | acc, p :: ps => if p ∈ acc then dedupF acc ps else dedupF (acc ++ [p]) ps
def lt3 (x y : Int × PR) : Bool := decide (x.1 < y.1 ∨ (x.1 = y.1 ∧ (x.2.1 < y.2.1 ∨ (x.2.1 = y.2.1 ∧ x.2.2 < y.2.2))))
def le3 (x y : Int × PR) : Bool := !lt3 y x
def orderedF (ps : List PR) : List PR := (isortB le3 ((dedupF [] ps).map fun p => ((((dedupF [] ps).filter fun o => lessF o p).length : Nat), p))).map (·.2)
def restF (v : PR) : PR := (v.1 % v.2, v.2)
def pairF (v : PR) (l : Int) (steps : List PR) : PR :=
  if v.1 / v.2 > l ∨ (v.1 / v.2 = l ∧ v.1 % v.2 > 0) then (2 * l + 1, 0) else if v.1 % v.2 = 0 then (2 * (v.1 / v.2), 0) else (2 * (v.1 / v.2) + 1, 1 + ((steps.findIdx fun x => decide (x = restF v) : Nat) : Int))
def partsF (vs : List PR) (l : Int) : List PR := (vs.filter fun v => decide (v.1 / v.2 < l) && decide (0 < v.1 % v.2)).map restF
def regionF (vs : List PR) (l : Int) : List PR := vs.map fun v => pairF v l (orderedF (partsF vs l))
def maxRank (r : List PR) : Int := (r.map (·.2)).foldl max 0
def pastF (r : List PR) (l : Int) : List PR :=
  r.map fun x => if x.1 % 2 = 0 then (x.1 + 1, if x.1 < 2 * l then 1 else 0) else (x.1, if 0 < x.2 then x.2 + (if r.any fun y => decide (y.1 % 2 = 0) && decide (y.1 < 2 * l) then 1 else 0) else 0)
def laterF (r : List PR) (l : Int) : Option (List PR) :=
  if r.any fun x => decide (x.1 % 2 = 0) then some (pastF r l) else if maxRank r = 0 then none else some (r.map fun x => if x.2 = maxRank r then (x.1 + 1, 0) else x)
def sampleF (r : List PR) (l : Int) : List PR := r.map fun x => if x.1 = 2 * l + 1 then (l + 1, 1) else momF (x.1 / 2 * (1 + maxRank r) + x.2) (1 + maxRank r)
def okR (r : List PR) : Prop := r.length ≤ 3 ∧ ∀ x ∈ r, 0 ≤ x.1 ∧ x.1 ≤ 7 ∧ 0 ≤ x.2 ∧ x.2 ≤ 3
def isRegF (c l : Int) (r : List PR) : Bool :=
  decide (((r.length : Nat) : Int) = c) && (r.all fun x => decide (0 ≤ x.1 ∧ x.1 ≤ 2 * l + 1) && decide (0 ≤ x.2 ∧ x.2 ≤ c)) &&
    r.all fun x => !((decide (x.2 > 0) != (decide (x.1 % 2 = 1) && decide (x.1 < 2 * l + 1))) || (decide (x.2 > 1) && !decide (x.2 - 1 ∈ r.map (·.2))))
def pairsF (c l : Int) : List PR := ((List.range (2 * l + 2).toNat).map fun h => (List.range (c + 1).toNat).map fun k => (((h : Nat) : Int), ((k : Nat) : Int))).flatten
def stepF (c l : Int) (rows : List (List PR)) : List (List PR) := (rows.map fun r => (pairsF c l).map fun p => r ++ [p]).flatten
def rowsF (c l : Int) : Nat → List (List PR)
  | 0 => [[]]
  | n + 1 => stepF c l (rowsF c l n)
def allF (c l : Int) : List (List PR) := (rowsF c l c.toNat).filter (isRegF c l)
def lawRegF (c l : Int) (r : List PR) : Bool :=
  decide (((r.length : Nat) : Int) = c) && (r.all fun x => (decide (0 ≤ x.1) && decide (x.1 ≤ 2 * l + 1)) && (decide (0 ≤ x.2) && decide (x.2 ≤ c)) && ((decide (x.2 > 0)) == (decide (x.1 % 2 = 1) && decide (x.1 ≤ 2 * l)))) &&
    (((List.range (maxRank r + 1).toNat).filter fun k => !decide (((k : Nat) : Int) ∈ (0 :: r.map (·.2) : List Int))).length == 0)

def r_is_integer : WN := nSome (fun ds _ => ∃ x : Int, ds = [.int x]) fun _ _ d => d = .bl true
def r_is_number : WN := nSome (fun ds _ => ∃ x l h : Int, ds = [.int x, .int l, .int h]) fun ds _ d => ∀ x l h : Int, ds = [.int x, .int l, .int h] → d = .bl (decide (l ≤ x ∧ x ≤ h))
def r_is_tuple : WN := nSome (fun ds _ => ∃ (xs : List D) (n : Int), ds = [.tup xs, .int n]) fun ds _ d => ∀ (xs : List D) (n : Int), ds = [.tup xs, .int n] → d = .bl (decide (((xs.length : Nat) : Int) = n))
def r_common_part : WN := nSome (fun ds _ => ∃ a b : Int, ds = [.int a, .int b] ∧ 0 ≤ a ∧ 0 ≤ b) fun ds _ d => ∀ a b : Int, ds = [.int a, .int b] → d = .int (Int.gcd a b)
def r_moment : WN := nSome (fun ds _ => ∃ p q : Int, ds = [.int p, .int q] ∧ 0 ≤ p ∧ 0 < q ∧ q < 20000) fun ds _ d => ∀ p q : Int, ds = [.int p, .int q] → d = ipD (momF p q)
def r_is_less : WN := nSome (fun ds _ => ∃ (x y : PR), ds = [ipD x, ipD y] ∧ okM x ∧ okM y) fun ds _ d => ∀ (x y : PR), ds = [ipD x, ipD y] → d = .bl (lessF x y)
def r_whole_part : WN := nSome (fun ds _ => ∃ (x : PR), ds = [ipD x] ∧ okM x) fun ds _ d => ∀ (x : PR), ds = [ipD x] → d = .int (x.1 / x.2)
def r_rest_part : WN := nSome (fun ds _ => ∃ (x : PR), ds = [ipD x] ∧ okM x) fun ds _ d => ∀ (x : PR), ds = [ipD x] → d = ipD (restF x)
def r_ordered : WN := nNewS (fun ds M => ∃ (a : Addr) (ps : List PR), ds = [.ref a] ∧ M a = some (.lst (ps.map ipD)) ∧ ps.length ≤ 1000 ∧ ∀ x ∈ ps, okM x) fun ds M o => ∃ (a : Addr) (ps : List PR), ds = [.ref a] ∧ M a = some (.lst (ps.map ipD)) ∧ o = .lst ((orderedF ps).map ipD)
def r_pair_of : WN := nSome (fun ds M => ∃ (v : PR) (l : Int) (s : Addr) (steps : List PR), ds = [ipD v, .int l, .ref s] ∧ M s = some (.lst (steps.map ipD)) ∧ okM v ∧ 0 ≤ l ∧ l < 1000 ∧ (v.1 / v.2 < l → 0 < v.1 % v.2 → restF v ∈ steps))
  fun ds M d => ∃ (v : PR) (l : Int) (s : Addr) (steps : List PR), ds = [ipD v, .int l, .ref s] ∧ M s = some (.lst (steps.map ipD)) ∧ d = ipD (pairF v l steps)
def r_region_of : WN := nSome (fun ds _ => ∃ (vs : List PR) (l : Int), ds = [rowD vs, .int l] ∧ vs.length ≤ 3 ∧ (∀ x ∈ vs, okM x) ∧ 0 ≤ l ∧ l < 1000) fun ds _ d => ∃ (vs : List PR) (l : Int), ds = [rowD vs, .int l] ∧ d = rowD (regionF vs l)
def r_is_above : WN := nSome (fun ds _ => ∃ (x : PR) (l : Int), ds = [ipD x, .int l]) fun ds _ d => ∃ (x : PR) (l : Int), ds = [ipD x, .int l] ∧ d = .bl (decide (x.1 = 2 * l + 1))
def r_past_integers : WN := nSome (fun ds _ => ∃ (r : List PR) (l : Int), ds = [rowD r, .int l] ∧ okR r ∧ 0 ≤ l ∧ l ≤ 3) fun ds _ d => ∃ (r : List PR) (l : Int), ds = [rowD r, .int l] ∧ d = rowD (pastF r l)
def r_later : WN := nSome (fun ds _ => ∃ (r : List PR) (l : Int), ds = [rowD r, .int l] ∧ okR r ∧ 0 ≤ l ∧ l ≤ 3) fun ds _ d => ∃ (r : List PR) (l : Int), ds = [rowD r, .int l] ∧ d = (match laterF r l with | some r' => rowD r' | none => .non)
def r_sample : WN := nSome (fun ds _ => ∃ (r : List PR) (l : Int), ds = [rowD r, .int l] ∧ okR r ∧ 0 ≤ l ∧ l ≤ 3) fun ds _ d => ∃ (r : List PR) (l : Int), ds = [rowD r, .int l] ∧ d = rowD (sampleF r l)
def r_is_region : WN := nSome (fun ds _ => ∃ (c l : Int) (r : List PR), ds = [.int c, .int l, rowD r] ∧ okR r ∧ 0 ≤ c ∧ c ≤ 3 ∧ 0 ≤ l ∧ l ≤ 3) fun ds _ d => ∃ (c l : Int) (r : List PR), ds = [.int c, .int l, rowD r] ∧ d = .bl (isRegF c l r)
def r_all_regions : WN := nNewS (fun ds _ => ∃ c l : Int, ds = [.int c, .int l] ∧ 1 ≤ c ∧ c ≤ 3 ∧ 0 ≤ l ∧ l ≤ 3) fun ds _ o => ∃ c l : Int, ds = [.int c, .int l] ∧ o = .lst ((allF c l).map rowD)
def r__law_is_region : WN := nSome (fun ds _ => ∃ (c l : Int) (r : List PR), ds = [.int c, .int l, rowD r] ∧ okR r ∧ 0 ≤ c ∧ c ≤ 3 ∧ 0 ≤ l ∧ l ≤ 3) fun ds _ d => ∃ (c l : Int) (r : List PR), ds = [.int c, .int l, rowD r] ∧ d = .bl (lawRegF c l r)
def r_law : WN := ⟨fun ds M Q => (∃ ns : List Int, ds = [.fl (ns.map .int)] ∧ ns.length ≤ 63) ∧ ∀ M', Q (.bl true) M', fun _ _ _ _ h q => ⟨q.1, fun M' => h _ _ (q.2 M')⟩⟩
end K05

namespace K05
open PySem PySem.Spec PyProof.Rows L2 MP
/-! the readings, as gen.py printed them -/
def w_is_integer : WS :=
    sRet (wAnd (wCB nIsi (aCons (wVar 0) (aCons (wC (.ty "int")) (aNil)))) (wNot (wCB nIsi (aCons (wVar 0) (aCons (wC (.ty "bool")) (aNil))))))
def w_is_number : WS :=
    sRet (wAnd (wCB r_is_integer (aCons (wVar 0) (aNil))) (wChain rLe rLe (wVar 1) (wVar 0) (wVar 2)))
def w_is_tuple : WS :=
    sRet (wAnd (wCB nIsi (aCons (wVar 0) (aCons (wC (.ty "tuple")) (aNil)))) (wOp rEq (wCB nLen (aCons (wVar 0) (aNil))) (wVar 1)))
def w_common_part : WS :=
    sSeq (sWhile (wtB (wOp rNe (wVar 1) (wC (.int 0)))) (sPar 0 1 (aCons (wVar 1) (aCons (wOp rMod (wVar 0) (wVar 1)) (aNil)))))
    (sRet (wVar 0))
def w_moment : WS :=
    sSeq (sAsg (wCB r_common_part (aCons (wVar 0) (aCons (wVar 1) (aNil)))) (gN 2))
    (sRet (wTup (aCons (wOp rFdiv (wVar 0) (wVar 2)) (aCons (wOp rFdiv (wVar 1) (wVar 2)) (aNil)))))
def w_is_less : WS :=
    sRet (wOp rLt (wOp rMulA (wOp rIx (wVar 0) (wC (.int 0))) (wOp rIx (wVar 1) (wC (.int 1)))) (wOp rMulA (wOp rIx (wVar 1) (wC (.int 0))) (wOp rIx (wVar 0) (wC (.int 1)))))
def w_whole_part : WS :=
    sRet (wOp rFdiv (wOp rIx (wVar 0) (wC (.int 0))) (wOp rIx (wVar 0) (wC (.int 1))))
def w_rest_part : WS :=
    sRet (wTup (aCons (wOp rMod (wOp rIx (wVar 0) (wC (.int 0))) (wOp rIx (wVar 0) (wC (.int 1)))) (aCons (wOp rIx (wVar 0) (wC (.int 1))) (aNil))))
def w_ordered : WS :=
    sSeq (sAsg (wLst (aNil)) (gN 1))
    (sSeq (sFor (iSeq (wVar 0)) (gN 2) (sIf (wtB (wOp rNotIn (wVar 2) (wVar 1))) (sDrop (wBM "list" mAppend (wVar 1) (aCons (wVar 2) (aNil)))) (sNil)))
    (sSeq (sAsg (wLc (iSeq (wVar 1)) (gN 2) (wtYes) (wTup (aCons (wCB nLen (aCons (wLc (iSeq (wVar 1)) (gN 4) (wtB (wCB r_is_less (aCons (wVar 4) (aCons (wVar 2) (aNil))))) (wVar 4) [4]) (aNil))) (aCons (wVar 2) (aNil)))) [2]) (gN 3))
    (sRet (wLc (iSeq (wCB nSorted (aCons (wVar 3) (aNil)))) (gT (gsCons (gN 5) (gsCons (gN 2) (gsNil)))) (wtYes) (wVar 2) [5, 2]))))
def w_pair_of : WS :=
    sSeq (sPar 3 4 (aCons (wCB r_whole_part (aCons (wVar 0) (aNil))) (aCons (wCB r_rest_part (aCons (wVar 0) (aNil))) (aNil))))
    (sSeq (sIf (wtOr (wtB (wOp rGt (wVar 3) (wVar 1))) (wtAnd (wtB (wOp rEq (wVar 3) (wVar 1))) (wtB (wOp rGt (wOp rIx (wVar 4) (wC (.int 0))) (wC (.int 0)))))) (sRet (wTup (aCons (wOp rAdd (wOp rMulA (wC (.int 2)) (wVar 1)) (wC (.int 1))) (aCons (wC (.int 0)) (aNil))))) (sNil))
    (sSeq (sIf (wtB (wOp rEq (wOp rIx (wVar 4) (wC (.int 0))) (wC (.int 0)))) (sRet (wTup (aCons (wOp rMulA (wC (.int 2)) (wVar 3)) (aCons (wC (.int 0)) (aNil))))) (sNil))
    (sRet (wTup (aCons (wOp rAdd (wOp rMulA (wC (.int 2)) (wVar 3)) (wC (.int 1))) (aCons (wOp rAdd (wC (.int 1)) (wBM "list" mIndex (wVar 2) (aCons (wVar 4) (aNil)))) (aNil)))))))
def w_region_of : WS :=
    sSeq (sAsg (wLst (aNil)) (gN 2))
    (sSeq (sFor (iSeq (wVar 0)) (gN 3) (sIf (wtAnd (wtB (wOp rLt (wCB r_whole_part (aCons (wVar 3) (aNil))) (wVar 1))) (wtB (wOp rGt (wOp rIx (wCB r_rest_part (aCons (wVar 3) (aNil))) (wC (.int 0))) (wC (.int 0))))) (sDrop (wBM "list" mAppend (wVar 2) (aCons (wCB r_rest_part (aCons (wVar 3) (aNil))) (aNil)))) (sNil)))
    (sSeq (sAsg (wCB r_ordered (aCons (wVar 2) (aNil))) (gN 4))
    (sRet (wCB nTuple (aCons (wLc (iSeq (wVar 0)) (gN 3) (wtYes) (wCB r_pair_of (aCons (wVar 3) (aCons (wVar 1) (aCons (wVar 4) (aNil))))) [3]) (aNil))))))
def w_is_above : WS :=
    sRet (wOp rEq (wOp rIx (wVar 0) (wC (.int 0))) (wOp rAdd (wOp rMulA (wC (.int 2)) (wVar 1)) (wC (.int 1))))
def w_past_integers : WS :=
    sSeq (sAsg (wCB nInt (aCons (wCB nAny (aCons (wLc (iSeq (wVar 0)) (gT (gsCons (gN 4) (gsCons (gN 6) (gsNil)))) (wtYes) (wAnd (wOp rEq (wOp rMod (wVar 4) (wC (.int 2))) (wC (.int 0))) (wOp rLt (wVar 4) (wOp rMulA (wC (.int 2)) (wVar 1)))) [4, 6]) (aNil))) (aNil))) (gN 2))
    (sSeq (sAsg (wLst (aNil)) (gN 3))
    (sSeq (sFor (iSeq (wVar 0)) (gT (gsCons (gN 4) (gsCons (gN 5) (gsNil)))) (sIf (wtB (wOp rEq (wOp rMod (wVar 4) (wC (.int 2))) (wC (.int 0)))) (sDrop (wBM "list" mAppend (wVar 3) (aCons (wTup (aCons (wOp rAdd (wVar 4) (wC (.int 1))) (aCons (wIf (wtB (wOp rLt (wVar 4) (wOp rMulA (wC (.int 2)) (wVar 1)))) (wC (.int 1)) (wC (.int 0))) (aNil)))) (aNil)))) (sDrop (wBM "list" mAppend (wVar 3) (aCons (wTup (aCons (wVar 4) (aCons (wIf (wtB (wOp rGt (wVar 5) (wC (.int 0)))) (wOp rAdd (wVar 5) (wVar 2)) (wC (.int 0))) (aNil)))) (aNil))))))
    (sRet (wCB nTuple (aCons (wVar 3) (aNil))))))
def w_later : WS :=
    sSeq (sIf (wtB (wCB nAny (aCons (wLc (iSeq (wVar 0)) (gT (gsCons (gN 3) (gsCons (gN 4) (gsNil)))) (wtYes) (wOp rEq (wOp rMod (wVar 3) (wC (.int 2))) (wC (.int 0))) [3, 4]) (aNil)))) (sRet (wCB r_past_integers (aCons (wVar 0) (aCons (wVar 1) (aNil))))) (sNil))
    (sSeq (sAsg (wCK kMaxD (aCons (wLc (iSeq (wVar 0)) (gT (gsCons (gN 4) (gsCons (gN 5) (gsNil)))) (wtYes) (wVar 5) [4, 5]) (aNil)) (aCons (wC (.int 0)) (aNil))) (gN 2))
    (sSeq (sIf (wtB (wOp rEq (wVar 2) (wC (.int 0)))) (sRet (wC .non)) (sNil))
    (sRet (wCB nTuple (aCons (wLc (iSeq (wVar 0)) (gT (gsCons (gN 3) (gsCons (gN 5) (gsNil)))) (wtYes) (wIf (wtB (wOp rEq (wVar 5) (wVar 2))) (wTup (aCons (wOp rAdd (wVar 3) (wC (.int 1))) (aCons (wC (.int 0)) (aNil)))) (wTup (aCons (wVar 3) (aCons (wVar 5) (aNil))))) [3, 5]) (aNil))))))
def w_sample : WS :=
    sSeq (sAsg (wOp rAdd (wC (.int 1)) (wCK kMaxD (aCons (wLc (iSeq (wVar 0)) (gT (gsCons (gN 6) (gsCons (gN 5) (gsNil)))) (wtYes) (wVar 5) [6, 5]) (aNil)) (aCons (wC (.int 0)) (aNil)))) (gN 2))
    (sSeq (sAsg (wLst (aNil)) (gN 3))
    (sSeq (sFor (iSeq (wVar 0)) (gT (gsCons (gN 4) (gsCons (gN 5) (gsNil)))) (sIf (wtB (wCB r_is_above (aCons (wTup (aCons (wVar 4) (aCons (wVar 5) (aNil)))) (aCons (wVar 1) (aNil))))) (sDrop (wBM "list" mAppend (wVar 3) (aCons (wTup (aCons (wOp rAdd (wVar 1) (wC (.int 1))) (aCons (wC (.int 1)) (aNil)))) (aNil)))) (sDrop (wBM "list" mAppend (wVar 3) (aCons (wCB r_moment (aCons (wOp rAdd (wOp rMulA (wOp rFdiv (wVar 4) (wC (.int 2))) (wVar 2)) (wVar 5)) (aCons (wVar 2) (aNil)))) (aNil))))))
    (sRet (wCB nTuple (aCons (wVar 3) (aNil))))))
def w_is_region : WS :=
    sSeq (sIf (wtOr (wtNot (wtB (wCB r_is_tuple (aCons (wVar 2) (aCons (wVar 0) (aNil)))))) (wtNot (wtB (wCB nAll (aCons (wLc (iSeq (wVar 2)) (gN 6) (wtYes) (wCB r_is_tuple (aCons (wVar 6) (aCons (wC (.int 2)) (aNil)))) [6]) (aNil)))))) (sRet (wC (.bl false))) (sNil))
    (sSeq (sIf (wtNot (wtB (wCB nAll (aCons (wLc (iSeq (wVar 2)) (gT (gsCons (gN 4) (gsCons (gN 5) (gsNil)))) (wtYes) (wAnd (wCB r_is_number (aCons (wVar 4) (aCons (wC (.int 0)) (aCons (wOp rAdd (wOp rMulA (wC (.int 2)) (wVar 1)) (wC (.int 1))) (aNil))))) (wCB r_is_number (aCons (wVar 5) (aCons (wC (.int 0)) (aCons (wVar 0) (aNil)))))) [4, 5]) (aNil))))) (sRet (wC (.bl false))) (sNil))
    (sSeq (sAsg (wDc (iSeq (wVar 2)) (gT (gsCons (gN 7) (gsCons (gN 5) (gsNil)))) (wtYes) (wVar 5) (wC (.bl true)) [7, 5]) (gN 3))
    (sSeq (sFor (iSeq (wVar 2)) (gT (gsCons (gN 4) (gsCons (gN 5) (gsNil)))) (sIf (wtOr (wtB (wOp rNe (wOp rGt (wVar 5) (wC (.int 0))) (wAnd (wOp rEq (wOp rMod (wVar 4) (wC (.int 2))) (wC (.int 1))) (wOp rLt (wVar 4) (wOp rAdd (wOp rMulA (wC (.int 2)) (wVar 1)) (wC (.int 1))))))) (wtAnd (wtB (wOp rGt (wVar 5) (wC (.int 1)))) (wtB (wOp rNotIn (wOp rSub (wVar 5) (wC (.int 1))) (wVar 3))))) (sRet (wC (.bl false))) (sNil)))
    (sRet (wC (.bl true))))))
def w_all_regions : WS :=
    sSeq (sAsg (wLst (aCons (wTup (aNil)) (aNil))) (gN 2))
    (sSeq (sAsg (wLc2 (iR1 (aCons (wOp rAdd (wOp rMulA (wC (.int 2)) (wVar 1)) (wC (.int 2))) (aNil))) (gN 5) (wtYes) (iR1 (aCons (wOp rAdd (wVar 0) (wC (.int 1))) (aNil))) (gN 6) (wtYes) (wTup (aCons (wVar 5) (aCons (wVar 6) (aNil)))) [5, 6] [6]) (gN 3))
    (sSeq (sFor (iR1 (aCons (wVar 0) (aNil))) (gN 4) (sAsg (wLc2 (iSeq (wVar 2)) (gN 7) (wtYes) (iSeq (wVar 3)) (gN 8) (wtYes) (wOp rAdd (wVar 7) (wTup (aCons (wVar 8) (aNil)))) [7, 8] [8]) (gN 2)))
    (sRet (wLc (iSeq (wVar 2)) (gN 7) (wtB (wCB r_is_region (aCons (wVar 0) (aCons (wVar 1) (aCons (wVar 7) (aNil)))))) (wVar 7) [7]))))
def w__law_is_region : WS :=
    sSeq (sIf (wtOr (wtNot (wtB (wCB nIsi (aCons (wVar 2) (aCons (wC (.ty "tuple")) (aNil)))))) (wtB (wOp rNe (wCB nLen (aCons (wVar 2) (aNil))) (wVar 0)))) (sRet (wC (.bl false))) (sNil))
    (sSeq (sAsg (wLst (aCons (wC (.int 0)) (aNil))) (gN 3))
    (sSeq (sFor (iSeq (wVar 2)) (gN 4) (sSeq (sIf (wtOr (wtNot (wtB (wCB nIsi (aCons (wVar 4) (aCons (wC (.ty "tuple")) (aNil)))))) (wtOr (wtB (wOp rNe (wCB nLen (aCons (wVar 4) (aNil))) (wC (.int 2)))) (wtOr (wtNot (wtB (wCB r__law_int (aCons (wOp rIx (wVar 4) (wC (.int 0))) (aCons (wC (.int 0)) (aCons (wOp rAdd (wOp rMulA (wC (.int 2)) (wVar 1)) (wC (.int 1))) (aNil))))))) (wtNot (wtB (wCB r__law_int (aCons (wOp rIx (wVar 4) (wC (.int 1))) (aCons (wC (.int 0)) (aCons (wVar 0) (aNil)))))))))) (sRet (wC (.bl false))) (sNil))
    (sSeq (sIf (wtB (wOp rNe (wOp rGt (wOp rIx (wVar 4) (wC (.int 1))) (wC (.int 0))) (wAnd (wOp rEq (wOp rMod (wCB nInt (aCons (wOp rIx (wVar 4) (wC (.int 0))) (aNil))) (wC (.int 2))) (wC (.int 1))) (wOp rLe (wOp rIx (wVar 4) (wC (.int 0))) (wOp rMulA (wC (.int 2)) (wVar 1)))))) (sRet (wC (.bl false))) (sNil))
    (sDrop (wBM "list" mAppend (wVar 3) (aCons (wOp rIx (wVar 4) (wC (.int 1))) (aNil)))))))
    (sRet (wOp rEq (wCB nLen (aCons (wLc (iR1 (aCons (wOp rAdd (wCB nMax (aCons (wVar 3) (aNil))) (wC (.int 1))) (aNil))) (gN 5) (wtB (wOp rNotIn (wVar 5) (wVar 3))) (wVar 5) [5]) (aNil))) (wC (.int 0))))))
def w_law : WS :=
    sSeq (sAsg (wCB r__law_pool (aCons (wVar 0) (aNil))) (gN 1))
    (sSeq (sAsg (wOp rAdd (wC (.int 1)) (wCB r__law_draw (aCons (wVar 1) (aCons (wC (.int 2)) (aNil))))) (gN 2))
    (sSeq (sAsg (wCB r__law_draw (aCons (wVar 1) (aCons (wC (.int 4)) (aNil)))) (gN 3))
    (sSeq (sIf (wtB (wOp rEq (wCB r__law_draw (aCons (wVar 1) (aCons (wC (.int 8)) (aNil)))) (wC (.int 0)))) (sSeq (sAsg (wC (.int 3)) (gN 2))
    (sAsg (wCB r__law_draw (aCons (wVar 1) (aCons (wC (.int 2)) (aNil)))) (gN 3))) (sNil))
    (sSeq (sAsg (wCB r_all_regions (aCons (wVar 2) (aCons (wVar 3) (aNil)))) (gN 4))
    (sSeq (sAsg (wOp rIx (wLst (aCons (wOp rAdd (wOp rMulA (wC (.int 2)) (wVar 3)) (wC (.int 2))) (aCons (wOp rAdd (wOp rAdd (wOp rPow (wOp rAdd (wVar 3) (wC (.int 2))) (wC (.int 2))) (wOp rMulA (wOp rMulA (wC (.int 2)) (wVar 3)) (wOp rAdd (wVar 3) (wC (.int 2))))) (wOp rMulA (wC (.int 3)) (wOp rPow (wVar 3) (wC (.int 2))))) (aCons (wC (.int 0)) (aNil))))) (wOp rSub (wVar 2) (wC (.int 1)))) (gN 5))
    (sSeq (sIf (wtB (wOp rEq (wVar 2) (wC (.int 3)))) (sSeq (sAsg (wOp rAdd (wVar 3) (wC (.int 2))) (gN 6))
    (sAsg (wOp rAdd (wOp rAdd (wOp rAdd (wOp rMulA (wOp rMulA (wVar 6) (wVar 6)) (wVar 6)) (wOp rMulA (wOp rMulA (wOp rMulA (wC (.int 3)) (wVar 6)) (wVar 6)) (wVar 3))) (wOp rMulA (wOp rMulA (wOp rMulA (wC (.int 9)) (wVar 6)) (wVar 3)) (wVar 3))) (wOp rMulA (wOp rMulA (wOp rMulA (wC (.int 13)) (wVar 3)) (wVar 3)) (wVar 3))) (gN 5))) (sNil))
    (sSeq (sIf (wtOr (wtNot (wtB (wCB nIsi (aCons (wVar 4) (aCons (wC (.ty "list")) (aNil)))))) (wtOr (wtNot (wtB (wCB r__law_up (aCons (wVar 4) (aNil))))) (wtB (wOp rNe (wCB nLen (aCons (wVar 4) (aNil))) (wVar 5))))) (sRet (wC (.bl false))) (sNil))
    (sSeq (sFor (iSeq (wVar 4)) (gN 7) (sIf (wtNot (wtB (wCB r__law_is_region (aCons (wVar 2) (aCons (wVar 3) (aCons (wVar 7) (aNil))))))) (sRet (wC (.bl false))) (sNil)))
    (sSeq (sFor (iR1 (aCons (wC (.int 4)) (aNil))) (gN 8) (sSeq (sAsg (wOp rIx (wVar 4) (wCB r__law_draw (aCons (wVar 1) (aCons (wCB nLen (aCons (wVar 4) (aNil))) (aNil))))) (gN 7))
    (sSeq (sIf (wtOr (wtB (wOp rNe (wCB r_region_of (aCons (wCB r_sample (aCons (wVar 7) (aCons (wVar 3) (aNil)))) (aCons (wVar 3) (aNil)))) (wVar 7))) (wtB (wOp rNe (wOp rIs (wCB r_later (aCons (wVar 7) (aCons (wVar 3) (aNil)))) (wC .non)) (wOp rEq (wVar 7) (wOp rMulA (wTup (aCons (wTup (aCons (wOp rAdd (wOp rMulA (wC (.int 2)) (wVar 3)) (wC (.int 1))) (aCons (wC (.int 0)) (aNil)))) (aNil))) (wVar 2)))))) (sRet (wC (.bl false))) (sNil))
    (sSeq (sAsg (wCB nTuple (aCons (wLc (iR1 (aCons (wVar 2) (aNil))) (gN 10) (wtYes) (wCB r__law_fraction (aCons (wVar 1) (aCons (wC (.int 4)) (aNil)))) [10]) (aNil))) (gN 9))
    (sIf (wtB (wOp rNotIn (wCB r_region_of (aCons (wVar 9) (aCons (wVar 3) (aNil)))) (wVar 4))) (sRet (wC (.bl false))) (sNil))))))
    (sRet (wC (.bl true))))))))))))
end K05

namespace K05
open PySem PySem.Spec PyProof.Rows L2 MP

local macro_rules | `(tactic| walk_at "mp1") => `(tactic| simp only [e_wVar, e_wC, e_wOp, e_wUn, e_aNil, e_aCons, e_wCB, e_wCK, e_wTup, e_wLst, e_wtB, e_wtV, e_wtNot, e_wtAnd, e_wtOr, e_wAnd, e_wOr, e_wNot, e_wIf, e_wChain, e_wSl, e_oNone, e_oSome, e_wBM, e_wLc, e_wLc2, e_wDc, e_wtYes, e_sNil, e_sSeq, e_sBreak, e_sCont, e_sDrop, e_sRet, e_sRetN, e_sIf, e_sAsg, e_sPar, e_sAug, e_sFor, e_gN, e_gsNil, e_gsCons, e_gT, e_gSubD, e_iSeq, e_iR1, e_iR2, e_iEnumL, e_iZipW, e_mAppend, e_mExtend, e_mIndex, e_nLen, e_nTuple, e_nList, e_nBls, e_rIx, e_nSorted, e_nBest, e_kBestD, e_rAdd_int, e_rAdd_tup, e_rAdd_str, e_rAdd_ref, e_rSub_int, e_rMulA_int, e_rMulA_tup, e_rMulA_ref, e_rFdiv_int, e_rMod_int, e_rPow_int, e_rLe_int, e_rGt_int, e_rGe_int, e_rLt_int, e_rLt_tup, e_rEqn_int, e_rEqn_str, e_rEqn_bl, e_rEqn_tup, e_rEqn_ref, e_rIsn_non, e_rIsn_bl, e_rInn_tup, e_rNeg_int, e_ix_tup, e_ix_fl, len_tup, len_fl, items_tup, items_fl, iseq_tup, iseq_fl, e_nInt_int, e_nInt_bl, e_nInt1_int, e_nInt2_int, e_nIsi_2, e_r2F, e_tru_bl, e_tru_int, e_tru_tup, tn_int, tn_bl, tn_str, tn_non, tn_tup, tn_fl, kb_int_int, kb_int_bool, kb_int_str, kb_int_tuple, kb_int_list, kb_bool_int, kb_bool_bool, kb_bool_str, kb_bool_tuple, kb_bool_list, kb_str_int, kb_str_bool, kb_str_str, kb_str_tuple, kb_str_list, kb_NoneType_int, kb_NoneType_bool, kb_NoneType_str, kb_NoneType_tuple, kb_NoneType_list, kb_tuple_int, kb_tuple_bool, kb_tuple_str, kb_tuple_tuple, kb_tuple_list, kb_list_int, kb_list_bool, kb_list_str, kb_list_tuple, kb_list_list, s_at0, s_at1, s_at2, s_at3, s_at4, s_ex2, startD, List.map_cons, List.map_nil, List.length_cons, List.length_nil, List.replicate_succ, List.replicate_zero, List.cons_append, List.nil_append, List.append_nil, Nat.sub_self, Nat.reduceAdd, Nat.reduceSub, List.getElem?_cons_zero, List.getElem?_cons_succ, List.getElem?_nil, Option.some.injEq, reduceCtorEq, false_and, and_false, exists_false, exists_eq_left', exists_and_left, exists_and_right, exists_eq_right, D.int.injEq, D.bl.injEq, D.str.injEq, D.tup.injEq, D.ref.injEq, D.ty.injEq, List.cons.injEq, and_self, true_and, and_true, exists_eq_left, List.set_cons_zero, List.set_cons_succ, wipeD, forall_const, if_true, false_implies, true_implies, implies_true, Bool.false_eq_true, Bool.true_eq_false, eq_self_iff_true, xor_f, xor_t, Bool.not_true, Bool.not_false, decide_eq_true_eq, decide_eq_false_iff_not])
local macro_rules | `(tactic| walk_at "mp") => `(tactic| (try dsimp only); (try walk_at "mp1"))
local macro_rules | `(tactic| walk_at "cm") => `(tactic| first | exact cmul_r ⟨by decide, by decide⟩ | exact cmul_l ⟨by decide, by decide⟩ | exact cmul_r ⟨by omega, by omega⟩ | exact cmul_l ⟨by omega, by omega⟩)
theorem law_is_integer : FnLaw 1 1 w_is_integer r_is_integer := law_some fun ds M cn ⟨x, e⟩ => by
  subst e
  refine ⟨rfl, ?_⟩
  intro R mk
  unfold w_is_integer rtE
  walk_at "mp"
  exact mk _ _ rfl Sub.refl
theorem law_is_number : FnLaw 3 3 w_is_number r_is_number := law_some fun ds M cn ⟨x, l, h, e⟩ => by
  subst e
  refine ⟨rfl, ?_⟩
  intro R mk
  have mk : ∀ c, decide (l ≤ x ∧ x ≤ h) = c → R (.bl c) M := fun c e => mk _ _ (fun x' l' h' e' => by simp only [List.cons.injEq, D.int.injEq, and_true] at e'; obtain ⟨rfl, rfl, rfl⟩ := e'; rw [e]) Sub.refl
  unfold w_is_number rtE
  walk_at "mp"
  rw [r_is_integer, e_nSome]
  refine ⟨⟨x, rfl⟩, ?_⟩
  rintro _ rfl
  walk_at "mp"
  exact ⟨fun h1 => mk _ (by simp [h1]), fun h1 => mk _ (by simp [h1])⟩
theorem law_is_tuple : FnLaw 2 2 w_is_tuple r_is_tuple := law_some fun ds M cn ⟨xs, n, e⟩ => by
  subst e
  refine ⟨rfl, ?_⟩
  intro R mk
  have mk : R (.bl (decide (((xs.length : Nat) : Int) = n))) M := mk _ _ (fun x' n' e' => by simp only [List.cons.injEq, D.tup.injEq, D.int.injEq, and_true] at e'; obtain ⟨rfl, rfl⟩ := e'; rfl) Sub.refl
  unfold w_is_tuple rtE
  walk_at "mp"
  exact mk
theorem law_common_part : FnLaw 2 2 w_common_part r_common_part := law_some fun ds M cn ⟨a, b, e, ha, hb⟩ => by
  subst e
  refine ⟨rfl, ?_⟩
  intro R mkR
  have mkR : ∀ c, (Int.gcd a b : Int) = c → R (.int c) M := fun c e => mkR _ _ (fun x y e' => by simp only [List.cons.injEq, D.int.injEq, and_true] at e'; obtain ⟨rfl, rfl⟩ := e'; rw [e]) Sub.refl
  unfold w_common_part rtE
  walk_at "mp"
  refine while_of (fun m ρ M1 => ∃ x y : Int, ρ = [some (.int x), some (.int y)] ∧ M1 = M ∧ 0 ≤ x ∧ 0 ≤ y ∧ Int.gcd x y = Int.gcd a b ∧ y.toNat = m) ⟨b.toNat, a, b, rfl, rfl, ha, hb, rfl, rfl⟩ ?_
  rintro I mk m ρ M1 ⟨x, y, rfl, rfl, hx, hy, hg, hm⟩
  walk_at "mp"
  refine ⟨fun h => ?_, fun h => ?_⟩
  · have hy' : 0 < y := by simp at h; omega
    have hm2 : 0 ≤ x % y ∧ x % y < y := ⟨Int.emod_nonneg _ (by omega), Int.emod_lt_of_pos _ hy'⟩
    refine ⟨hy', ?_⟩
    exact mk m (x % y).toNat _ _ (by omega) ⟨y, x % y, rfl, rfl, hy, hm2.1, by rw [gcd_step hx hy', hg], rfl⟩
  · have hy' : y = 0 := by simpa using h
    subst hy'
    refine mkR _ ?_
    rw [← hg, Int.gcd_zero_right]
    omega
theorem law_moment : FnLaw 3 2 w_moment r_moment := law_some fun ds M cn ⟨p, q, e, hp, hq, hq2⟩ => by
  subst e
  refine ⟨rfl, ?_⟩
  intro R mk
  have mk : R (ipD (momF p q)) M := mk _ _ (fun x y e' => by simp only [List.cons.injEq, D.int.injEq, and_true] at e'; obtain ⟨rfl, rfl⟩ := e'; rfl) Sub.refl
  have g1 : 0 < Int.gcd p q := Int.gcd_pos_of_ne_zero_right _ (by omega)
  have g2 : (Int.gcd p q : Int) ≤ q := Int.le_of_dvd hq (Int.gcd_dvd_right ..)
  unfold w_moment rtE
  walk_at "mp"
  rw [r_common_part, e_nSome]
  refine ⟨⟨p, q, rfl, hp, by omega⟩, fun d hd => ?_⟩
  rw [hd p q rfl]
  walk_at "mp"
  exact ⟨⟨by omega, by omega⟩, ⟨by omega, by omega⟩, by decide, mk⟩
theorem ipD_def (x : PR) : ipD x = .tup [.int x.1, .int x.2] := rfl
theorem law_is_less : FnLaw 2 2 w_is_less r_is_less := law_some fun ds M cn ⟨x, y, e, hx, hy⟩ => by
  subst e
  refine ⟨rfl, ?_⟩
  intro R mk
  have mk : R (.bl (lessF x y)) M := mk _ _ (fun x' y' e' => by simp only [List.cons.injEq, and_true] at e'; rw [ipD_inj _ _ e'.1, ipD_inj _ _ e'.2]) Sub.refl
  obtain ⟨h1, h2, h3, h4⟩ := hx
  obtain ⟨k1, k2, k3, k4⟩ := hy
  unfold w_is_less rtE
  simp only [ipD_def]
  walk_at "mp"
  exact ⟨by walk_at "cm", by walk_at "cm", mk⟩
theorem law_whole_part : FnLaw 1 1 w_whole_part r_whole_part := law_some fun ds M cn ⟨x, e, hx⟩ => by
  subst e
  refine ⟨rfl, ?_⟩
  intro R mk
  have mk : R (.int (x.1 / x.2)) M := mk _ _ (fun x' e' => by simp only [List.cons.injEq, and_true] at e'; rw [ipD_inj _ _ e']) Sub.refl
  obtain ⟨h1, h2, h3, h4⟩ := hx
  unfold w_whole_part rtE
  simp only [ipD_def]
  walk_at "mp"
  exact ⟨⟨by omega, by omega⟩, mk⟩
theorem law_rest_part : FnLaw 1 1 w_rest_part r_rest_part := law_some fun ds M cn ⟨x, e, hx⟩ => by
  subst e
  refine ⟨rfl, ?_⟩
  intro R mk
  have mk : R (ipD (restF x)) M := mk _ _ (fun x' e' => by simp only [List.cons.injEq, and_true] at e'; rw [ipD_inj _ _ e']) Sub.refl
  obtain ⟨h1, h2, h3, h4⟩ := hx
  unfold w_rest_part rtE
  simp only [ipD_def]
  walk_at "mp"
  exact ⟨h3, by decide, mk⟩
theorem whole_at {x : PR} {M : Mem} {Q : D → Mem → Prop} (h : okM x) : r_whole_part.f [ipD x] M Q = Q (.int (x.1 / x.2)) M := propext ⟨fun ⟨_, q⟩ => q _ (fun x' e' => by simp only [List.cons.injEq, and_true] at e'; rw [ipD_inj _ _ e']), fun q => ⟨⟨x, rfl, h⟩, fun d hd => by rw [hd x rfl]; exact q⟩⟩
theorem rest_at {x : PR} {M : Mem} {Q : D → Mem → Prop} (h : okM x) : r_rest_part.f [ipD x] M Q = Q (ipD (restF x)) M := propext ⟨fun ⟨_, q⟩ => q _ (fun x' e' => by simp only [List.cons.injEq, and_true] at e'; rw [ipD_inj _ _ e']), fun q => ⟨⟨x, rfl, h⟩, fun d hd => by rw [hd x rfl]; exact q⟩⟩
theorem less_at {x y : PR} {M : Mem} {Q : D → Mem → Prop} (h : okM x) (h' : okM y) : r_is_less.f [ipD x, ipD y] M Q = Q (.bl (lessF x y)) M := propext ⟨fun ⟨_, q⟩ => q _ (fun x' y' e' => by simp only [List.cons.injEq, and_true] at e'; rw [ipD_inj _ _ e'.1, ipD_inj _ _ e'.2]), fun q => ⟨⟨x, y, rfl, h, h'⟩, fun d hd => by rw [hd x y rfl]; exact q⟩⟩
theorem law_is_above : FnLaw 2 2 w_is_above r_is_above := law_some fun ds M cn ⟨x, l, e⟩ => by
  subst e
  refine ⟨rfl, ?_⟩
  intro R mk
  have mk : R (.bl (decide (x.1 = 2 * l + 1))) M := mk _ _ ⟨x, l, rfl, rfl⟩ Sub.refl
  unfold w_is_above rtE
  simp only [ipD_def]
  walk_at "mp"
  exact ⟨by walk_at "cm", mk⟩
theorem restF_ok {x : PR} (h : okM x) : okM (restF x) := by
  obtain ⟨h1, h2, h3, h4⟩ := h
  refine ⟨Int.emod_nonneg _ (by omega), ?_, h3, h4⟩
  have := Int.emod_lt_of_pos x.1 h3
  show x.1 % x.2 < 1000000
  omega
theorem okM_rest_lt {x : PR} (h : okM x) : 0 ≤ x.1 % x.2 ∧ x.1 % x.2 < x.2 := ⟨Int.emod_nonneg _ (by have := h.2.2.1; omega), Int.emod_lt_of_pos _ h.2.2.1⟩
theorem ip0 {x : PR} {M : Mem} {Q : D → Prop} : ixF (ipD x) (.int 0) M Q = Q (.int x.1) := by rw [ipD_def, e_ix_tup, s_at0]; exact propext ⟨fun ⟨_, e, q⟩ => by cases e; exact q, fun q => ⟨_, rfl, q⟩⟩
theorem ip1 {x : PR} {M : Mem} {Q : D → Prop} : ixF (ipD x) (.int 1) M Q = Q (.int x.2) := by rw [ipD_def, e_ix_tup, s_at1]; exact propext ⟨fun ⟨_, e, q⟩ => by cases e; exact q, fun q => ⟨_, rfl, q⟩⟩
theorem find_ip (x : PR) : ∀ ps : List PR, x ∈ ps → (ps.map ipD).findIdx? (fun y => eqD y (ipD x)) = some (ps.findIdx fun y => decide (y = x))
  | [], h => by cases h
  | p :: ps, h => by
    rw [List.map_cons, List.findIdx?_cons, List.findIdx_cons, eqD_dec ipD ipD_nb ipD_inj]
    by_cases e : p = x
    · rw [decide_eq_true e]; rfl
    · rw [decide_eq_false e]
      have h' : x ∈ ps := by
        rcases List.mem_cons.mp h with z | z
        · exact absurd z.symm e
        · exact z
      rw [find_ip x ps h']
      rfl
theorem ipDs_pls (ps : List PR) : D.pls (ps.map ipD) := nbs_pls _ (nbs_map ipD ipD_nb ps)
theorem ipDs_deps (ps : List PR) : D.deps (ps.map ipD) ≤ 1 := deps_map ipD 1 (fun a => Nat.le_of_eq (ipD_dep a)) ps
theorem law_pair_of : FnLaw 5 3 w_pair_of r_pair_of := law_some fun ds M cn ⟨v, l, s, steps, e, hs, hv, hl0, hl1, hin⟩ => by
  subst e
  refine ⟨rfl, ?_⟩
  intro R mk
  have mk : ∀ z, pairF v l steps = z → R (ipD z) M := fun z e => mk _ _ ⟨v, l, s, steps, rfl, hs, by rw [e]⟩ Sub.refl
  have hr := okM_rest_lt hv
  unfold w_pair_of rtE
  walk_at "mp"
  simp only [whole_at hv, rest_at hv]
  walk_at "mp"
  simp only [ip0, restF, ty_lst hs]
  walk_at "mp"
  have big : CMul 2 l := by walk_at "cm"
  have big2 : CMul 2 (v.1 / v.2) := .inl (by decide)
  have ix : ∀ x, M s = some (.lst x) ↔ x = steps.map ipD := fun x => ⟨fun h => by rw [hs] at h; cases h; rfl, fun h => by rw [h]; exact hs⟩
  have sz : 2 ≤ sizeLine := by decide
  refine ⟨fun h1 => ⟨big, sz, mk (2 * l + 1, 0) ?_⟩, fun h1 => ⟨fun h2 => ⟨fun h3 => ⟨big, sz, mk (2 * l + 1, 0) ?_⟩, fun h3 => ⟨fun h4 => ⟨big2, sz, mk (2 * (v.1 / v.2), 0) ?_⟩, fun h4 => ?_⟩⟩, fun h2 => ⟨fun h4 => ⟨big2, sz, mk (2 * (v.1 / v.2), 0) ?_⟩, fun h4 => ?_⟩⟩⟩
  · unfold pairF; rw [if_pos (.inl h1)]
  · unfold pairF; rw [if_pos (.inr ⟨h2, h3⟩)]
  · unfold pairF; rw [if_neg (by omega), if_pos h4]
  · omega
  · unfold pairF; rw [if_neg (by omega), if_pos h4]
  · have hmem := hin (by omega) (by omega)
    refine ⟨big2, of_eq_true (ty_lst hs), _, hs, ipDs_pls steps, ipD_pl _, ?_, _, find_ip _ _ hmem, sz, mk (_, _) ?_⟩
    · have := ipDs_deps steps; omega
    · unfold pairF; rw [if_neg (by omega), if_neg h4]; rfl
theorem pair_at {v : PR} {l : Int} {s : Addr} {steps : List PR} {M : Mem} {Q : D → Mem → Prop} (hs : M s = some (.lst (steps.map ipD))) (h : okM v ∧ 0 ≤ l ∧ l < 1000 ∧ (v.1 / v.2 < l → 0 < v.1 % v.2 → restF v ∈ steps)) : r_pair_of.f [ipD v, .int l, .ref s] M Q = Q (ipD (pairF v l steps)) M := propext ⟨fun ⟨_, q⟩ => q _ ⟨v, l, s, steps, rfl, hs, rfl⟩, fun q => ⟨⟨v, l, s, steps, rfl, hs, h⟩, fun d hd => by
  obtain ⟨v', l', s', steps', e, hs', rfl⟩ := hd
  simp only [List.cons.injEq, D.int.injEq, D.ref.injEq, and_true] at e
  obtain ⟨e1, rfl, rfl⟩ := e
  rw [ipD_inj _ _ e1] at q
  rw [hs] at hs'
  have e2 := MO.lst.inj (Option.some.inj hs')
  have : steps = steps' := map_inj ipD ipD_inj _ _ e2
  rw [← this]
  exact q⟩⟩
theorem dedup_step (acc : List PR) (p : PR) (ps : List PR) : dedupF acc (p :: ps) = dedupF (if p ∈ acc then acc else acc ++ [p]) ps := by
  rw [dedupF]; split <;> rfl
/-- the found ones, item by item -/
def dedupL (ps : List PR) : List PR := ps.foldl (fun acc p => if p ∈ acc then acc else acc ++ [p]) []
theorem dedupL_eq : ∀ (ps acc : List PR), ps.foldl (fun acc p => if p ∈ acc then acc else acc ++ [p]) acc = dedupF acc ps
  | [], acc => rfl
  | p :: ps, acc => by rw [List.foldl_cons, dedup_step, dedupL_eq ps]
theorem dedupL_len : ∀ (ps acc : List PR), (ps.foldl (fun acc p => if p ∈ acc then acc else acc ++ [p]) acc).length ≤ acc.length + ps.length
  | [], acc => by simp
  | p :: ps, acc => by
    rw [List.foldl_cons]
    refine Nat.le_trans (dedupL_len ps _) ?_
    split
    · rw [List.length_cons]; omega
    · rw [List.length_append, List.length_cons]; simp; omega
theorem dedupL_mem : ∀ (ps acc : List PR) (x : PR), x ∈ ps.foldl (fun acc p => if p ∈ acc then acc else acc ++ [p]) acc ↔ x ∈ acc ∨ x ∈ ps
  | [], acc, x => by simp
  | p :: ps, acc, x => by
    rw [List.foldl_cons, dedupL_mem ps]
    split
    · rename_i h
      constructor
      · rintro (z | z)
        · exact .inl z
        · exact .inr (List.mem_cons_of_mem _ z)
      · rintro (z | z)
        · exact .inl z
        · rcases List.mem_cons.mp z with rfl | z
          · exact .inl h
          · exact .inr z
    · rw [List.mem_append, List.mem_singleton, List.mem_cons, or_assoc]
def enc3 (x : Int × PR) : D := .tup [.int x.1, ipD x.2]
theorem enc3_py (x : Int × PR) : (enc3 x).py = .tuple [.int x.1, .tuple [.int x.2.1, .int x.2.2]] := rfl
theorem lt3_py (x y : Int × PR) : PySem.W.dataLt (enc3 x).py (enc3 y).py = lt3 x y := by
  rw [enc3_py, enc3_py, PySem.W.dataLt_pair rfl rfl, PySem.W.dataLt_int, PySem.W.dataLt_ii, PyData.eqv, PyData.eqv]
  simp only [PyData.eqvAll, PyData.eqv, lt3, Bool.and_true]
  obtain ⟨a, b, c⟩ := x
  obtain ⟨a', b', c'⟩ := y
  by_cases h1 : a = a'
  · subst h1
    simp only [beq_self_eq_true, if_true, Int.lt_irrefl, false_or, true_and]
    by_cases h2 : b = b' ∧ c = c'
    · obtain ⟨rfl, rfl⟩ := h2
      simp
    · have : ((b == b') && (c == c')) = false := by
        rw [Bool.and_eq_false_iff, beq_eq_false_iff_ne, beq_eq_false_iff_ne]
        by_cases h3 : b = b'
        · exact .inr fun z => h2 ⟨h3, z⟩
        · exact .inl h3
      rw [this]; simp
  · have : (a == a') = false := beq_eq_false_iff_ne.mpr h1
    rw [this]
    simp [h1]
theorem le3_tr (a b c : Int × PR) (h1 : le3 a b = true) (h2 : le3 b c = true) : le3 a c = true := by
  simp only [le3, lt3, Bool.not_eq_true', decide_eq_false_iff_not] at *
  omega
theorem le3_to (a b : Int × PR) : (le3 a b || le3 b a) = true := by
  simp only [le3, lt3, Bool.or_eq_true, Bool.not_eq_true', decide_eq_false_iff_not]
  omega
theorem le3_an (x y : Int × PR) (h1 : le3 x y = true) (h2 : le3 y x = true) : x = y := by
  obtain ⟨a, b, c⟩ := x
  obtain ⟨a', b', c'⟩ := y
  simp only [le3, lt3, Bool.not_eq_true', decide_eq_false_iff_not] at h1 h2
  simp only [Prod.mk.injEq]
  omega
theorem sort3 (xs : List (Int × PR)) : sortD (xs.map enc3) = (isortB le3 xs).map enc3 := sortD_enc enc3 (fun a b => by rw [lt3_py]; rfl) le3_tr le3_to le3_an xs
theorem law_ordered : FnLaw 6 1 w_ordered r_ordered := law_newS (fun ds M r c n ⟨a, ps, e1, e2, e⟩ => by cases e) fun ds M cn ⟨a, ps, e, ha, hl, hok⟩ => by
  subst e
  refine ⟨rfl, ?_⟩
  intro R mkR
  have mkR : ∀ p M', M p = none → M' p = some (.lst ((orderedF ps).map ipD)) → Sub M M' → R (.ref p) M' := fun p M' => mkR p _ M' ⟨a, ps, rfl, ha, rfl⟩
  have sz := sizeLine_eq
  unfold w_ordered rtE
  walk_at "mp"
  refine ⟨by decide, fun f hf => ?_⟩
  have naf : a ≠ f := Sub.ne ha hf
  rw [iseq_lst (xs := ps.map ipD) (by rw [mupd_ne naf]; exact ha)]
  refine loop_enc ipD ps (fun pre ρ M1 => ∃ x2 : Option D, ρ = [some (.ref a), some (.ref f), x2, none, none, none] ∧ M1 f = some (.lst ((dedupL pre).map ipD)) ∧ Sub M M1) ?step ?fin _ _ ⟨none, rfl, mupd_same, Sub.new hf⟩
  case step =>
    rintro I mk pre x post ρ M1 e ⟨x2, rfl, h1, h2⟩
    refine ⟨h2 _ _ ha, ?_⟩
    walk_at "mp"
    rw [in_lst h1]
    walk_at "mp"
    rw [any_enc ipD ipD_nb ipD_inj]
    have hlen : (dedupL pre).length ≤ 1000 := by
      have := dedupL_len pre []
      have e3 := congrArg List.length e
      simp only [List.length_append, List.length_cons] at e3
      unfold dedupL
      simp only [List.length_nil] at this
      omega
    have ed : dedupL (pre ++ [x]) = if x ∈ dedupL pre then dedupL pre else dedupL pre ++ [x] := by
      unfold dedupL; rw [List.foldl_append]; rfl
    refine ⟨ipDs_pls _, ipD_pl _, ?_, fun h => ?_, fun h => ?_⟩
    · have := ipDs_deps (dedupL pre); omega
    · have hx : ¬ x ∈ dedupL pre := by simpa using h
      rw [ty_lst h1]
      refine ⟨trivial, _, h1, by rw [List.length_map]; omega, mk _ _ _ ⟨_, rfl, ?_, h2.upd hf⟩⟩
      rw [mupd_same, ed, if_neg hx, List.map_append]; rfl
    · have hx : x ∈ dedupL pre := by simpa using h
      exact mk _ _ _ ⟨_, rfl, by rw [ed, if_pos hx]; exact h1, h2⟩
  case fin =>
    rintro ρ M1 ⟨x2, rfl, h1, h2⟩
    refine ⟨h2 _ _ ha, ?_⟩
    walk_at "mp"
    rw [iseq_lst h1]
    obtain ⟨fs, efs⟩ : ∃ fs, fs = dedupL ps := ⟨_, rfl⟩
    rw [← efs] at h1 ⊢
    have hfl : fs.length ≤ 1000 := by
      have := dedupL_len ps []
      rw [efs]; unfold dedupL
      simp only [List.length_nil] at this
      omega
    have hfok : ∀ x ∈ fs, okM x := fun x hx => by
      rw [efs] at hx
      rcases (dedupL_mem ps [] x).mp hx with z | z
      · cases z
      · exact hok x z
    have eo : orderedF ps = (isortB le3 (fs.map fun p => (((fs.filter fun o => lessF o p).length : Nat), p))).map (·.2) := by
      unfold orderedF
      rw [← dedupL_eq ps []]
      rw [efs]; rfl
    refine lc_enc ipD (fun p => enc3 ((((fs.filter fun o => lessF o p).length : Nat) : Int), p)) (fun M2 => Sub M1 M2) fs (fun J mk x hx M2 s2 => ?_) (by omega) (fun M2 s2 => ?_) M1 Sub.refl
    · have h1' := s2 _ _ h1
      refine ⟨h1', ?_⟩
      walk_at "mp"
      rw [iseq_lst h1']
      refine lc_encf ipD (fun o => lessF o x) ipD (fun M3 => Sub M2 M3) fs (fun J' mk' o ho M3 s3 => ?_) (by omega) (fun M3 s3 => ?_) M2 Sub.refl
      · refine ⟨s3 _ _ h1', ?_⟩
        walk_at "mp"
        rw [less_at (hfok o ho) (hfok x hx)]
        walk_at "mp"
        exact ⟨fun _ => mk' _ s3, fun _ => mk' _ s3⟩
      · refine ⟨s3 _ _ h1', fun q hq => ?_⟩
        rw [len_lst mupd_same]
        refine ⟨by decide, ?_, mk _ ((s2.trans s3).upd ((s2.trans s3).none hq))⟩
        rw [List.length_map]; rfl
    · refine ⟨s2 _ _ h1, fun q hq => ⟨q, rfl, _, mupd_same, ?_, ?_, ?_, fun r hr => ?_⟩⟩
      · intro d hd d' hd'
        simp only [List.map_map, List.mem_map] at hd hd'
        obtain ⟨x, _, rfl⟩ := hd
        obtain ⟨y, _, rfl⟩ := hd'
        rfl
      · refine .inl fun d hd => ?_
        simp only [List.map_map, List.mem_map] at hd
        obtain ⟨x, _, rfl⟩ := hd
        exact ⟨_, _, rfl⟩
      · intro x hx
        obtain ⟨y, _, rfl⟩ := List.mem_map.mp hx
        exact ⟨rfl, (by decide : (2 : Nat) ≤ 60)⟩
      · rw [iseq_lst mupd_same]
        have es : (fs.map fun p => enc3 ((((fs.filter fun o => lessF o p).length : Nat) : Int), p)) = (fs.map fun p => ((((fs.filter fun o => lessF o p).length : Nat) : Int), p)).map enc3 := by rw [List.map_map]; rfl
        rw [es, sort3]
        obtain ⟨zs, ezs⟩ : ∃ zs, zs = isortB le3 (fs.map fun p => ((((fs.filter fun o => lessF o p).length : Nat) : Int), p)) := ⟨_, rfl⟩
        rw [← ezs]
        rw [← ezs] at eo
        have hzl : zs.length ≤ 1000 := by
          rw [ezs, (isortB_perm _).length_eq, List.length_map]; exact hfl
        have s12 := s2.trans (Sub.new (o := .lst (fs.map fun p => enc3 ((((fs.filter fun o => lessF o p).length : Nat) : Int), p))) hq)
        refine lc_enc enc3 (fun z => ipD z.2) (fun M3 => M3 r = some (.lst (zs.map enc3)) ∧ Sub M1 M3) zs (fun J' mk' x hx M3 ⟨hr3, s3⟩ => ?_) (by omega) (fun M3 ⟨hr3, s3⟩ => ?_) _ ⟨mupd_same, by rw [es] at s12; exact s12.upd (s12.none (by rw [es] at hr; exact hr))⟩
        · refine ⟨hr3, ?_⟩
          unfold enc3
          walk_at "mp"
          exact ⟨rfl, mk' _ ⟨hr3, s3⟩⟩
        · refine ⟨hr3, fun t ht => mkR t _ (h2.none (s3.none ht)) ?_ ((h2.trans s3).upd (h2.none (s3.none ht)))⟩
          rw [mupd_same, eo, List.map_map]; rfl
theorem ordered_at {a : Addr} {ps : List PR} {M : Mem} {Q : D → Mem → Prop} (ha : M a = some (.lst (ps.map ipD))) : r_ordered.f [.ref a] M Q = ((ps.length ≤ 1000 ∧ ∀ x ∈ ps, okM x) ∧ ∀ p, M p = none → Q (.ref p) (mupd M p (.lst ((orderedF ps).map ipD)))) := by
  have inj : ∀ qs : List PR, M a = some (.lst (qs.map ipD)) → qs = ps := fun qs h => by
    rw [ha] at h
    exact (map_inj ipD ipD_inj _ _ (MO.lst.inj (Option.some.inj h))).symm
  rw [r_ordered, e_nNewS]
  refine propext ⟨fun ⟨⟨a', qs, e, h1, h2, h3⟩, q⟩ => ?_, fun ⟨⟨h1, h2⟩, q⟩ => ⟨⟨a, ps, rfl, ha, h1, h2⟩, fun o ⟨a', qs, e, h3, e2⟩ p hp => ?_⟩⟩
  · cases e
    have := inj qs h1
    subst this
    exact ⟨⟨h2, h3⟩, fun p hp => q _ ⟨a, qs, rfl, ha, rfl⟩ p hp⟩
  · cases e
    have := inj qs h3
    subst this
    subst e2
    exact q p hp
theorem ordered_mem (ps : List PR) (x : PR) (h : x ∈ ps) : x ∈ orderedF ps := by
  unfold orderedF
  rw [List.mem_map]
  have hx : x ∈ dedupF [] ps := by
    rw [← dedupL_eq ps []]
    exact (dedupL_mem ps [] x).mpr (.inr h)
  exact ⟨(_, x), (isortB_perm _).mem_iff.mpr (List.mem_map.mpr ⟨x, hx, rfl⟩), rfl⟩
theorem parts_step (vs : List PR) (v : PR) (l : Int) : partsF (vs ++ [v]) l = partsF vs l ++ (if v.1 / v.2 < l ∧ 0 < v.1 % v.2 then [restF v] else []) := by
  unfold partsF
  rw [List.filter_append, List.map_append]
  congr 1
  by_cases h : v.1 / v.2 < l ∧ 0 < v.1 % v.2
  · rw [if_pos h, List.filter_cons_of_pos (by simp [h.1, h.2])]; rfl
  · rw [if_neg h, List.filter_cons_of_neg]; rfl
    simp only [Bool.and_eq_true, decide_eq_true_eq]; exact h
theorem parts_len (vs : List PR) (l : Int) : (partsF vs l).length ≤ vs.length := by
  unfold partsF; rw [List.length_map]; exact List.length_filter_le _ _
theorem parts_ok (vs : List PR) (l : Int) (h : ∀ x ∈ vs, okM x) : ∀ x ∈ partsF vs l, okM x := fun x hx => by
  unfold partsF at hx
  obtain ⟨y, hy, rfl⟩ := List.mem_map.mp hx
  exact restF_ok (h y ((List.mem_filter.mp hy).1))
theorem rowD_def (r : List PR) : rowD r = .tup (r.map ipD) := rfl
theorem law_region_of : FnLaw 5 2 w_region_of r_region_of := law_some fun ds M cn ⟨vs, l, e, hvl, hok, hl0, hl1⟩ => by
  subst e
  refine ⟨rfl, ?_⟩
  intro R mkR
  have mkR : ∀ M', Sub M M' → R (rowD (regionF vs l)) M' := fun M' s => mkR _ _ ⟨vs, l, rfl, rfl⟩ s
  have sz := sizeLine_eq
  unfold w_region_of rtE
  rw [rowD_def]
  walk_at "mp"
  refine ⟨by decide, fun f hf => ?_⟩
  refine loop_enc ipD vs (fun pre ρ M1 => ∃ x3 : Option D, ρ = [some (.tup (vs.map ipD)), some (.int l), some (.ref f), x3, none] ∧ M1 f = some (.lst ((partsF pre l).map ipD)) ∧ Sub M M1) ?step ?fin _ _ ⟨none, rfl, mupd_same, Sub.new hf⟩
  case step =>
    rintro I mk pre x post ρ M1 e ⟨x2, rfl, h1, h2⟩
    have hx : okM x := hok x (by rw [e]; simp)
    have hpl : (partsF pre l).length < sizeLine := by
      have := parts_len pre l
      have e3 := congrArg List.length e
      simp only [List.length_append, List.length_cons] at e3
      omega
    refine ⟨trivial, ?_⟩
    walk_at "mp"
    rw [whole_at hx]
    walk_at "mp"
    simp only [rest_at hx, ip0]
    walk_at "mp"
    simp only [ty_lst h1]
    have no : ¬ (x.1 / x.2 < l ∧ 0 < x.1 % x.2) → I (pre ++ [x]) [some (.tup (vs.map ipD)), some (.int l), some (.ref f), some (ipD x), none] M1 := fun h => mk _ _ _ ⟨_, rfl, by rw [parts_step, if_neg h, List.append_nil]; exact h1, h2⟩
    refine ⟨fun h3 => ⟨fun h4 => ⟨trivial, _, h1, by rw [List.length_map]; exact hpl, mk _ _ _ ⟨_, rfl, ?_, h2.upd hf⟩⟩, fun h4 => no fun z => h4 z.2⟩, fun h3 => no fun z => h3 z.1⟩
    rw [mupd_same, parts_step, if_pos ⟨h3, h4⟩, List.map_append]; rfl
  case fin =>
    rintro ρ M1 ⟨x2, rfl, h1, h2⟩
    refine ⟨trivial, ?_⟩
    walk_at "mp"
    rw [ordered_at h1]
    refine ⟨⟨by have := parts_len vs l; omega, parts_ok vs l hok⟩, fun s hs => ?_⟩
    walk_at "mp"
    refine lc_enc ipD (fun v => ipD (pairF v l (orderedF (partsF vs l)))) (fun M2 => M2 s = some (.lst ((orderedF (partsF vs l)).map ipD)) ∧ Sub M M2) vs (fun J mk x hx M2 ⟨s2, k2⟩ => ?_) (by omega) (fun M2 ⟨s2, k2⟩ => ?_) _ ⟨mupd_same, h2.upd (h2.none hs)⟩
    · refine ⟨trivial, ?_⟩
      walk_at "mp"
      rw [pair_at s2 ⟨hok x hx, hl0, hl1, fun a1 a2 => ordered_mem _ _ ?_⟩]
      · exact ⟨rfl, mk _ ⟨s2, k2⟩⟩
      · unfold partsF
        refine List.mem_map.mpr ⟨x, List.mem_filter.mpr ⟨hx, ?_⟩, rfl⟩
        simp [a1, a2]
    · refine ⟨trivial, fun q hq => ?_⟩
      rw [items_lst mupd_same]
      have : D.tup (vs.map fun v => ipD (pairF v l (orderedF (partsF vs l)))) = rowD (regionF vs l) := by
        unfold rowD regionF; rw [List.map_map]; rfl
      rw [this]
      exact mkR _ (k2.upd (k2.none hq))
theorem rowD_len {r : List PR} (h : okR r) : r.length ≤ sizeLine := by have := h.1; have := sizeLine_eq; omega
theorem anyBl (p : PR → Bool) (r : List PR) : (r.map fun x => D.bl (p x)) = (r.map p).map D.bl := by rw [List.map_map]; rfl
theorem any_at {q : Addr} {bs : List Bool} {M : Mem} {Q : D → Mem → Prop} (h : M q = some (.lst (bs.map D.bl))) : nAny.f [.ref q] M Q = Q (.bl (bs.any id)) M := by
  refine propext ⟨fun ⟨a, cs, e, h1, z⟩ => ?_, fun z => ⟨q, bs, rfl, h, z⟩⟩
  cases e
  rw [h] at h1
  have := map_inj D.bl (fun a b e => by cases e; rfl) _ _ (MO.lst.inj (Option.some.inj h1))
  rw [this]; exact z
theorem all_at {q : Addr} {bs : List Bool} {M : Mem} {Q : D → Mem → Prop} (h : M q = some (.lst (bs.map D.bl))) : nAll.f [.ref q] M Q = Q (.bl (bs.all id)) M := by
  refine propext ⟨fun ⟨a, cs, e, h1, z⟩ => ?_, fun z => ⟨q, bs, rfl, h, z⟩⟩
  cases e
  rw [h] at h1
  have := map_inj D.bl (fun a b e => by cases e; rfl) _ _ (MO.lst.inj (Option.some.inj h1))
  rw [this]; exact z
theorem law_past_integers : FnLaw 7 2 w_past_integers r_past_integers := law_some fun ds M cn ⟨r, l, e, hr, hl0, hl1⟩ => by
  subst e
  refine ⟨rfl, ?_⟩
  intro R mkR
  have mkR : ∀ M', Sub M M' → R (rowD (pastF r l)) M' := fun M' s => mkR _ _ ⟨r, l, rfl, rfl⟩ s
  have sz := sizeLine_eq
  have hrl := hr.1
  unfold w_past_integers rtE
  rw [rowD_def]
  simp only [e_sSeq, e_sAsg, e_wCB, e_aCons, e_aNil]
  walk_at "mp"
  refine lc_enc ipD (fun x => D.bl (decide (x.1 % 2 = 0) && decide (x.1 < 2 * l))) (fun M1 => Sub M M1) r (fun J mk x hx M1 s1 => ?_) (rowD_len hr) (fun M1 s1 => ?_) M Sub.refl
  · refine ⟨trivial, ?_⟩
    rw [ipD_def]
    walk_at "mp"
    refine ⟨rfl, by decide, fun h => ⟨by walk_at "cm", ?_, mk _ s1⟩, fun h => ⟨?_, mk _ s1⟩⟩
    · simp [h]
    · simp [h]
  · refine ⟨trivial, fun q hq => ?_⟩
    rw [anyBl]
    refine ⟨q, rfl, _, mupd_same, by decide, fun p hp => ?_⟩
    obtain ⟨sh, esh⟩ : ∃ sh : Int, sh = if r.any (fun y => decide (y.1 % 2 = 0) && decide (y.1 < 2 * l)) = true then 1 else 0 := ⟨_, rfl⟩
    have esh' : (if (r.map fun x => decide (x.1 % 2 = 0) && decide (x.1 < 2 * l)).any id = true then (1 : Int) else 0) = sh := by rw [esh, List.any_map]; rfl
    rw [esh']
    obtain ⟨g, eg⟩ : ∃ g : PR → PR, g = fun x => if x.1 % 2 = 0 then (x.1 + 1, if x.1 < 2 * l then 1 else 0) else (x.1, if 0 < x.2 then x.2 + sh else 0) := ⟨_, rfl⟩
    have epast : pastF r l = r.map g := by rw [eg, esh]; rfl
    have hp1 : M p = none := s1.none ((Sub.new hq).none hp)
    refine loop_enc ipD r (fun pre ρ M2 => ∃ x4 x5 : Option D, ρ = [some (.tup (r.map ipD)), some (.int l), some (.int sh), some (.ref p), x4, x5, none] ∧ M2 p = some (.lst ((pre.map g).map ipD)) ∧ Sub M M2) ?step ?fin _ _ ⟨none, none, rfl, mupd_same, (s1.upd (s1.none hq)).upd hp1⟩
    case step =>
      rintro I mk pre x post ρ M2 e ⟨x4, x5, rfl, h1, h2⟩
      have hpl : (((pre.map g).map ipD)).length < sizeLine := by
        have e3 := congrArg List.length e
        simp only [List.length_append, List.length_cons] at e3
        rw [List.length_map, List.length_map]; omega
      have nx : ∀ y : PR, g x = y → I (pre ++ [x]) [some (.tup (r.map ipD)), some (.int l), some (.int sh), some (.ref p), some (.int x.1), some (.int x.2), none] (mupd M2 p (.lst ((pre.map g).map ipD ++ [ipD y]))) := fun y ey => mk _ _ _ ⟨_, _, rfl, by rw [mupd_same, List.map_append, List.map_append, ← ey]; rfl, h2.upd hp1⟩
      refine ⟨trivial, ?_⟩
      rw [ipD_def x]
      walk_at "mp"
      refine ⟨rfl, by decide, ?_⟩
      simp only [ty_lst h1]
      refine ⟨fun h3 => ⟨trivial, by walk_at "cm", fun h4 => ⟨by decide, _, h1, hpl, nx (x.1 + 1, 1) ?_⟩, fun h4 => ⟨by decide, _, h1, hpl, nx (x.1 + 1, 0) ?_⟩⟩, fun h3 => ⟨trivial, fun h4 => ⟨by decide, _, h1, hpl, nx (x.1, x.2 + sh) ?_⟩, fun h4 => ⟨by decide, _, h1, hpl, nx (x.1, 0) ?_⟩⟩⟩
      · rw [eg]; simp only [h3, h4, if_true]
      · rw [eg]; simp only [h3, h4, if_true, if_false]
      · rw [eg]; simp only [h3, h4, if_true, if_false]
      · rw [eg]; simp only [h3, h4, if_false]
    case fin =>
      rintro ρ M2 ⟨x4, x5, rfl, h1, h2⟩
      refine ⟨trivial, ?_⟩
      walk_at "mp"
      rw [items_lst h1]
      have := mkR _ h2
      rw [epast] at this
      exact this
theorem past_at {r : List PR} {l : Int} {M : Mem} {Q : D → Mem → Prop} (h : okR r) (h0 : 0 ≤ l) (h1 : l ≤ 3) : r_past_integers.f [rowD r, .int l] M Q = Q (rowD (pastF r l)) M := propext ⟨fun ⟨_, q⟩ => q _ ⟨r, l, rfl, rfl⟩, fun q => ⟨⟨r, l, rfl, h, h0, h1⟩, fun d ⟨r', l', e, ed⟩ => by
  simp only [List.cons.injEq, D.int.injEq, and_true] at e
  obtain ⟨e1, rfl⟩ := e
  rw [ed, ← rowD_inj _ _ e1]; exact q⟩⟩
theorem max_ints : ∀ (ns : List Int) (n : Int), PySem.W.maxD (.int n) (D.pys (ns.map D.int)) = .int (ns.foldl max n) := fun ns n => by
  rw [pys_map, List.map_map]
  exact PySem.W.maxD_ints n ns
theorem maxDD_ints (ns : List Int) (n : Int) : maxDD (.int n) (ns.map D.int) = .int (ns.foldl max n) := by
  unfold maxDD
  induction ns generalizing n with
  | nil => rfl
  | cons k ks ih =>
    rw [List.map_cons, List.foldl_cons, List.foldl_cons, ← ih]
    congr 1
    have : ltD (.int n) (.int k) = decide (n < k) := PySem.W.dataLt_int n k
    rw [this]
    by_cases h : n < k
    · rw [decide_eq_true h, if_pos rfl, Int.max_eq_right (by omega)]
    · rw [decide_eq_false h, if_neg (by decide), Int.max_eq_left (by omega)]
theorem alike_ints (ns : List Int) : PySem.W.AlikeAll (D.pys (ns.map D.int)) := by
  rw [pys_map, List.map_map]
  refine ⟨fun x hx y hy => ?_, fun x hx => ?_⟩
  · obtain ⟨a, _, rfl⟩ := List.mem_map.mp hx
    obtain ⟨b, _, rfl⟩ := List.mem_map.mp hy
    rfl
  · obtain ⟨a, _, rfl⟩ := List.mem_map.mp hx
    intro z; cases z
theorem ints_pls (ns : List Int) : D.pls (ns.map D.int) := nbs_pls _ (nbs_map D.int (fun _ => rfl) ns)
theorem ints_deps (ns : List Int) : D.deps (ns.map D.int) ≤ 0 := deps_map D.int 0 (fun _ => Nat.le_refl _) ns
theorem foldl_max : ∀ (ns : List Int) (a b : Int), a ≤ b → 0 ≤ b → ns.foldl max (max a b) = ns.foldl max b := fun ns a b h _ => by rw [Int.max_eq_right h]
theorem maxRank_eq (r : List PR) (h : ∀ x ∈ r, 0 ≤ x.2) : bestD maxDD (D.int 0) (r.map fun x => D.int x.2) = .int (maxRank r) := by
  cases r with
  | nil => rfl
  | cons x xs =>
    show maxDD (.int x.2) (xs.map fun x => D.int x.2) = _
    have e : (xs.map fun x => D.int x.2) = (xs.map (·.2)).map D.int := by rw [List.map_map]; rfl
    rw [e, maxDD_ints]
    unfold maxRank
    rw [List.map_cons, List.foldl_cons, Int.max_eq_right (h x List.mem_cons_self)]
theorem law_later : FnLaw 6 2 w_later r_later := law_some fun ds M cn ⟨r, l, e, hr, hl0, hl1⟩ => by
  subst e
  refine ⟨rfl, ?_⟩
  intro R mkR
  have mkR : ∀ d M', d = (match laterF r l with | some r' => rowD r' | none => .non) → Sub M M' → R d M' := fun d M' e s => mkR _ _ ⟨r, l, rfl, e⟩ s
  have sz := sizeLine_eq
  have hrl := hr.1
  unfold w_later rtE
  rw [rowD_def]
  walk_at "mp"
  refine lc_enc ipD (fun x => D.bl (decide (x.1 % 2 = 0))) (fun M1 => Sub M M1) r (fun J mk x hx M1 s1 => ?_) (rowD_len hr) (fun M1 s1 => ?_) M Sub.refl
  · refine ⟨trivial, ?_⟩
    rw [ipD_def]
    walk_at "mp"
    exact ⟨rfl, by decide, mk _ s1⟩
  · refine ⟨trivial, fun q hq => ⟨q, rfl, r.map (fun x => decide (x.1 % 2 = 0)), ?_, fun h => ?_, fun h => ?_⟩⟩
    · rw [mupd_same, List.map_map]; rfl
    · rw [← rowD_def, past_at hr hl0 hl1]
      refine mkR _ _ ?_ (s1.upd (s1.none hq))
      unfold laterF
      rw [List.any_map] at h
      rw [if_pos (by exact h)]
    · have hany : ¬ (r.any fun x => decide (x.1 % 2 = 0)) = true := by
        rw [List.any_map] at h
        rw [Bool.not_eq_true]; exact h
      refine lc_enc ipD (fun x => D.int x.2) (fun M2 => Sub M M2) r (fun J mk x hx M2 s2 => ?_) (rowD_len hr) (fun M2 s2 => ?_) _ (s1.upd (s1.none hq))
      · refine ⟨trivial, ?_⟩
        rw [ipD_def]
        walk_at "mp"
        exact ⟨rfl, mk _ s2⟩
      · refine ⟨trivial, fun q2 hq2 => ?_⟩
        rw [items_lst mupd_same]
        have e1 : (r.map fun x => D.int x.2) = (r.map (·.2)).map D.int := by rw [List.map_map]; rfl
        refine ⟨by rw [e1]; exact ints_pls _, by rw [e1]; exact alike_ints _, by rw [e1]; have := ints_deps (r.map (·.2)); omega, ?_⟩
        rw [maxRank_eq r fun x hx => (hr.2 x hx).2.2.1]
        walk_at "mp"
        have s3 : Sub M (mupd M2 q2 (.lst (r.map fun x => D.int x.2))) := s2.upd (s2.none hq2)
        refine ⟨fun h0 => mkR _ _ ?_ s3, fun h0 => ?_⟩
        · unfold laterF; rw [if_neg hany, if_pos h0]
        · refine lc_enc ipD (fun x => ipD (if x.2 = maxRank r then (x.1 + 1, 0) else x)) (fun M3 => Sub M M3) r (fun J mk x hx M3 s3 => ?_) (rowD_len hr) (fun M3 s3 => ?_) _ s3
          · refine ⟨trivial, ?_⟩
            rw [ipD_def x]
            walk_at "mp"
            refine ⟨rfl, fun h5 => ⟨by decide, ?_, mk _ s3⟩, fun h5 => ⟨by decide, ?_, mk _ s3⟩⟩
            · rw [if_pos h5]; rfl
            · rw [if_neg h5]; rfl
          · refine ⟨trivial, fun q3 hq3 => ?_⟩
            rw [items_lst mupd_same]
            refine mkR _ _ ?_ (s3.upd (s3.none hq3))
            unfold laterF
            rw [if_neg hany, if_neg h0]
            show _ = rowD _
            unfold rowD
            rw [List.map_map]; rfl
theorem above_at {x : PR} {l : Int} {M : Mem} {Q : D → Mem → Prop} : r_is_above.f [ipD x, .int l] M Q = Q (.bl (decide (x.1 = 2 * l + 1))) M := propext ⟨fun ⟨_, q⟩ => q _ ⟨x, l, rfl, rfl⟩, fun q => ⟨⟨x, l, rfl⟩, fun d ⟨x', l', e, ed⟩ => by
  simp only [List.cons.injEq, D.int.injEq, and_true] at e
  obtain ⟨e1, rfl⟩ := e
  rw [ed, ← ipD_inj _ _ e1]; exact q⟩⟩
theorem moment_at {p q : Int} {M : Mem} {Q : D → Mem → Prop} (h : 0 ≤ p ∧ 0 < q ∧ q < 20000) : r_moment.f [.int p, .int q] M Q = Q (ipD (momF p q)) M := propext ⟨fun ⟨_, z⟩ => z _ (fun p' q' e => by simp only [List.cons.injEq, D.int.injEq, and_true] at e; rw [e.1, e.2]), fun z => ⟨⟨p, q, rfl, h⟩, fun d hd => by rw [hd p q rfl]; exact z⟩⟩
theorem foldl_max_le (b : Int) : ∀ (ns : List Int) (a : Int), a ≤ b → (∀ n ∈ ns, n ≤ b) → ns.foldl max a ≤ b
  | [], a, h, _ => h
  | n :: ns, a, h, hn => by
    rw [List.foldl_cons]
    exact foldl_max_le b ns _ (Int.max_le.mpr ⟨h, hn n List.mem_cons_self⟩) fun m hm => hn m (List.mem_cons_of_mem _ hm)
theorem le_foldl_max : ∀ (ns : List Int) (a : Int), a ≤ ns.foldl max a
  | [], a => Int.le_refl _
  | n :: ns, a => by
    rw [List.foldl_cons]
    exact Int.le_trans (Int.le_max_left a n) (le_foldl_max ns _)
theorem maxRank_bd {r : List PR} (h : okR r) : 0 ≤ maxRank r ∧ maxRank r ≤ 3 := by
  refine ⟨le_foldl_max _ 0, foldl_max_le 3 _ 0 (by decide) fun n hn => ?_⟩
  obtain ⟨x, hx, rfl⟩ := List.mem_map.mp hn
  exact (h.2 x hx).2.2.2
theorem law_sample : FnLaw 7 2 w_sample r_sample := law_some fun ds M cn ⟨r, l, e, hr, hl0, hl1⟩ => by
  subst e
  refine ⟨rfl, ?_⟩
  intro R mkR
  have mkR : ∀ M', Sub M M' → R (rowD (sampleF r l)) M' := fun M' s => mkR _ _ ⟨r, l, rfl, rfl⟩ s
  have sz := sizeLine_eq
  have hrl := hr.1
  have hmr := maxRank_bd hr
  unfold w_sample rtE
  rw [rowD_def]
  walk_at "mp"
  refine lc_enc ipD (fun x => D.int x.2) (fun M2 => Sub M M2) r (fun J mk x hx M2 s2 => ?_) (rowD_len hr) (fun M2 s2 => ?_) _ Sub.refl
  · refine ⟨trivial, ?_⟩
    rw [ipD_def]
    walk_at "mp"
    exact ⟨rfl, mk _ s2⟩
  · refine ⟨trivial, fun q2 hq2 => ?_⟩
    rw [items_lst mupd_same]
    have e1 : (r.map fun x => D.int x.2) = (r.map (·.2)).map D.int := by rw [List.map_map]; rfl
    refine ⟨by rw [e1]; exact ints_pls _, by rw [e1]; exact alike_ints _, by rw [e1]; have := ints_deps (r.map (·.2)); omega, ?_⟩
    rw [maxRank_eq r fun x hx => (hr.2 x hx).2.2.1]
    walk_at "mp"
    refine ⟨by decide, fun p hp => ?_⟩
    have hp1 : M p = none := s2.none ((Sub.new hq2).none hp)
    obtain ⟨g, eg⟩ : ∃ g : PR → PR, g = fun x => if x.1 = 2 * l + 1 then (l + 1, 1) else momF (x.1 / 2 * (1 + maxRank r) + x.2) (1 + maxRank r) := ⟨_, rfl⟩
    have es : sampleF r l = r.map g := by rw [eg]; rfl
    refine loop_enc ipD r (fun pre ρ M2 => ∃ x4 x5 : Option D, ρ = [some (.tup (r.map ipD)), some (.int l), some (.int (1 + maxRank r)), some (.ref p), x4, x5, none] ∧ M2 p = some (.lst ((pre.map g).map ipD)) ∧ Sub M M2) ?step ?fin _ _ ⟨none, none, rfl, mupd_same, (s2.upd (s2.none hq2)).upd hp1⟩
    case step =>
      rintro I mk pre x post ρ M3 e ⟨x4, x5, rfl, h1, h2⟩
      have hx := hr.2 x (by rw [e]; simp)
      have hpl : (((pre.map g).map ipD)).length < sizeLine := by
        have e3 := congrArg List.length e
        simp only [List.length_append, List.length_cons] at e3
        rw [List.length_map, List.length_map]; omega
      have nx : ∀ y : PR, g x = y → I (pre ++ [x]) [some (.tup (r.map ipD)), some (.int l), some (.int (1 + maxRank r)), some (.ref p), some (.int x.1), some (.int x.2), none] (mupd M3 p (.lst ((pre.map g).map ipD ++ [ipD y]))) := fun y ey => mk _ _ _ ⟨_, _, rfl, by rw [mupd_same, List.map_append, List.map_append, ← ey]; rfl, h2.upd hp1⟩
      refine ⟨trivial, ?_⟩
      rw [ipD_def x]
      walk_at "mp"
      refine ⟨rfl, by decide, ?_⟩
      rw [← ipD_def x, above_at]
      walk_at "mp"
      have hmom : 0 ≤ x.1 / 2 * (1 + maxRank r) + x.2 := by
        have : 0 ≤ x.1 / 2 * (1 + maxRank r) := Int.mul_nonneg (Int.ediv_nonneg hx.1 (by decide)) (by omega)
        omega
      simp only [ty_lst h1, moment_at ⟨hmom, (by omega : 0 < 1 + maxRank r), (by omega : 1 + maxRank r < 20000)⟩]
      refine ⟨fun h3 => ⟨trivial, by decide, _, h1, hpl, nx (l + 1, 1) ?_⟩, fun h3 => ⟨trivial, cdiv_lit, by walk_at "cm", _, h1, hpl, nx _ ?_⟩⟩
      · rw [eg]; simp only [h3, if_true]
      · rw [eg]; simp only [h3, if_false]
    case fin =>
      rintro ρ M3 ⟨x4, x5, rfl, h1, h2⟩
      refine ⟨trivial, ?_⟩
      walk_at "mp"
      rw [items_lst h1]
      have := mkR _ h2
      rw [es] at this
      exact this
theorem tuple_at {xs : List D} {n : Int} {M : Mem} {Q : D → Mem → Prop} : r_is_tuple.f [.tup xs, .int n] M Q = Q (.bl (decide (((xs.length : Nat) : Int) = n))) M := propext ⟨fun ⟨_, z⟩ => z _ (fun p' q' e => by simp only [List.cons.injEq, D.int.injEq, D.tup.injEq, and_true] at e; rw [e.1, e.2]), fun z => ⟨⟨xs, n, rfl⟩, fun d hd => by rw [hd xs n rfl]; exact z⟩⟩
theorem number_at {x l h : Int} {M : Mem} {Q : D → Mem → Prop} : r_is_number.f [.int x, .int l, .int h] M Q = Q (.bl (decide (l ≤ x ∧ x ≤ h))) M := propext ⟨fun ⟨_, z⟩ => z _ (fun x' l' h' e => by simp only [List.cons.injEq, D.int.injEq, and_true] at e; obtain ⟨rfl, rfl, rfl⟩ := e; rfl), fun z => ⟨⟨x, l, h, rfl⟩, fun d hd => by rw [hd x l h rfl]; exact z⟩⟩
def regOk1 (c l : Int) (x : PR) : Bool := decide (0 ≤ x.1 ∧ x.1 ≤ 2 * l + 1) && decide (0 ≤ x.2 ∧ x.2 ≤ c)
def regBad (l : Int) (r : List PR) (x : PR) : Bool := (decide (x.2 > 0) != (decide (x.1 % 2 = 1) && decide (x.1 < 2 * l + 1))) || (decide (x.2 > 1) && !decide (x.2 - 1 ∈ r.map (·.2)))
theorem isRegF_eq (c l : Int) (r : List PR) : isRegF c l r = (decide (((r.length : Nat) : Int) = c) && (r.all (regOk1 c l)) && r.all fun x => !regBad l r x) := rfl
theorem rb1 : ∀ A C D E : Bool, (!A == C) = true → ((A != (true && C)) || (D && !E)) = true := by decide
theorem rb2 : ∀ A C E : Bool, (true ^^ E) = true → ((A != C) || (true && !E)) = true := by decide
theorem rb3 : ∀ A C D E : Bool, (!A == C) = false → (true ^^ E) = false → ((A != (true && C)) || (D && !E)) = false := by decide
theorem rb4 : ∀ A C E : Bool, (!A == C) = false → ((A != (true && C)) || (false && !E)) = false := by decide
theorem rb5 : ∀ A C D E : Bool, (!A == false) = true → ((A != (false && C)) || (D && !E)) = true := by decide
theorem rb6 : ∀ A C D E : Bool, (!A == false) = false → (true ^^ E) = false → ((A != (false && C)) || (D && !E)) = false := by decide
theorem rb7 : ∀ A C E : Bool, (!A == false) = false → ((A != (false && C)) || (false && !E)) = false := by decide
theorem law_is_region : FnLaw 8 3 w_is_region r_is_region := law_some fun ds M cn ⟨c, l, r, e, hr, hc0, hc3, hl0, hl1⟩ => by
  subst e
  refine ⟨rfl, ?_⟩
  intro R mkR
  have mkR : ∀ b M', isRegF c l r = b → Sub M M' → R (.bl b) M' := fun b M' e s => mkR _ _ ⟨c, l, r, rfl, by rw [e]⟩ s
  have sz := sizeLine_eq
  have hrl := hr.1
  unfold w_is_region rtE
  rw [rowD_def]
  walk_at "mp"
  rw [tuple_at]
  walk_at "mp"
  rw [List.length_map]
  refine ⟨fun h1 => mkR _ _ ?_ Sub.refl, fun h1 => ?_⟩
  · have h1' : ¬ ((r.length : Nat) : Int) = c := by simpa using h1
    rw [isRegF_eq, decide_eq_false h1']; rfl
  have h1' : ((r.length : Nat) : Int) = c := by simpa using h1
  have s0 : isRegF c l r = ((r.all (regOk1 c l)) && r.all fun x => !regBad l r x) := by rw [isRegF_eq, decide_eq_true h1']; rfl
  refine lc_enc ipD (fun x => D.bl true) (fun M1 => Sub M M1) r (fun J mk x hx M1 s1 => ?_) (rowD_len hr) (fun M1 s1 => ?_) M Sub.refl
  · refine ⟨trivial, ?_⟩
    rw [ipD_def]
    walk_at "mp"
    rw [tuple_at]
    exact ⟨rfl, mk _ s1⟩
  refine ⟨trivial, fun q hq => ⟨q, rfl, r.map (fun _ => true), ?_, ?_⟩⟩
  · rw [mupd_same, List.map_map]; rfl
  have eT : (r.map (fun _ => true)).all id = true := by rw [List.all_map, List.all_eq_true]; intro x hx; rfl
  rw [eT]
  refine ⟨fun z => (by cases z), fun _ => ?_⟩
  refine lc_enc ipD (fun x => D.bl (regOk1 c l x)) (fun M1 => Sub M M1) r (fun J mk x hx M1 s1 => ?_) (rowD_len hr) (fun M2 s2 => ?_) _ (s1.upd (s1.none hq))
  · refine ⟨trivial, ?_⟩
    rw [ipD_def]
    walk_at "mp"
    refine ⟨rfl, by walk_at "cm", ?_⟩
    rw [number_at]
    walk_at "mp"
    simp only [number_at]
    refine ⟨fun h => ⟨?_, mk _ s1⟩, fun h => ⟨?_, mk _ s1⟩⟩
    · unfold regOk1; rw [decide_eq_true h, Bool.true_and]
    · unfold regOk1; rw [decide_eq_false h, Bool.false_and]
  refine ⟨trivial, fun q2 hq2 => ⟨q2, rfl, r.map (regOk1 c l), ?_, fun h2 => ?_, fun h2 => ?_⟩⟩
  · rw [mupd_same, List.map_map]; rfl
  · refine mkR _ _ ?_ (s2.upd (s2.none hq2))
    rw [List.all_map] at h2
    have h2' : r.all (regOk1 c l) = false := by simpa using h2
    rw [s0, h2']; rfl
  have h2' : r.all (regOk1 c l) = true := by
    rw [List.all_map] at h2
    simpa using h2
  rw [h2', Bool.true_and] at s0
  have s3 := s2.upd (o := .lst (r.map fun x => D.bl (regOk1 c l x))) (s2.none hq2)
  refine dc_enc ipD (fun x => D.int x.2) (fun x => D.bl true) (fun M1 => Sub M M1) r (fun J mk x hx M1 s1 => ?_) (rowD_len hr) (fun M3 s3 => ?_) _ s3
  · refine ⟨rfl, trivial, ?_⟩
    rw [ipD_def]
    walk_at "mp"
    exact ⟨rfl, mk _ s1⟩
  refine ⟨trivial, fun k hk => ?_⟩
  obtain ⟨kvs, ek⟩ : ∃ kvs, kvs = r.foldl (fun acc x => dputD acc (D.int x.2) (D.bl true)) [] := ⟨_, rfl⟩
  rw [← ek]
  have kk : ∀ p ∈ kvs, p.1.pkey.isSome = true := by rw [ek]; exact dputs_keys (fun x : PR => D.int x.2) (fun _ => D.bl true) (fun _ => rfl) r [] (fun p hp => by cases hp)
  have kg : ∀ n : Int, (dgetD kvs (.int n)).isSome = decide (n ∈ r.map (·.2)) := fun n => by
    rw [ek, dputs_get (fun x : PR => D.int x.2) (fun _ => D.bl true)]
    show (false || _) = _
    rw [Bool.false_or]
    by_cases h : n ∈ r.map (·.2)
    · rw [decide_eq_true h, List.any_eq_true]
      obtain ⟨x, hx, rfl⟩ := List.mem_map.mp h
      exact ⟨x, hx, by simp⟩
    · rw [decide_eq_false h, List.any_eq_false]
      intro x hx z
      simp [D.key] at z
      exact h (List.mem_map.mpr ⟨x, hx, z⟩)
  have atk : mupd M3 k (.dic kvs) k = some (.dic kvs) := mupd_same
  refine loop_enc ipD r (fun pre ρ M4 => ∃ x4 x5 : Option D, ρ = [some (.int c), some (.int l), some (.tup (r.map ipD)), some (.ref k), x4, x5, none, none] ∧ M4 = mupd M3 k (.dic kvs) ∧ ∀ x ∈ pre, regBad l r x = false) ?step ?fin _ _ ⟨none, none, rfl, rfl, fun x hx => by cases hx⟩
  case step =>
    rintro I mk pre x post ρ M4 e ⟨x4, x5, rfl, rfl, h4⟩
    have hx := hr.2 x (by rw [e]; simp)
    have hxm : x ∈ r := by rw [e]; simp
    have good : regBad l r x = false → I (pre ++ [x]) [some (.int c), some (.int l), some (.tup (r.map ipD)), some (.ref k), some (.int x.1), some (.int x.2), none, none] (mupd M3 k (.dic kvs)) := fun hb => mk _ _ _ ⟨_, _, rfl, rfl, fun y hy => by
      rcases List.mem_append.mp hy with hy | hy
      · exact h4 y hy
      · rw [List.mem_singleton.mp hy]; exact hb⟩
    have bad : regBad l r x = true → R (.bl false) (mupd M3 k (.dic kvs)) := fun hb => mkR _ _ (by
      rw [s0, List.all_eq_false]
      exact ⟨x, hxm, by rw [hb]; simp⟩) (s3.upd (s3.none hk))
    have sub : Sub M (mupd M3 k (.dic kvs)) := s3.upd (s3.none hk)
    refine ⟨trivial, ?_⟩
    rw [ipD_def x]
    walk_at "mp"
    refine ⟨rfl, by decide, ?_⟩
    simp only [in_dic atk, kg]
    have kok : ∀ n : Int, keyOk kvs (.int n) := fun n => .inl ⟨rfl, kk⟩
    have cm : CMul 2 l := by walk_at "cm"
    have eb : regBad l r x = ((decide (0 < x.2) != (decide (x.1 % 2 = 1) && decide (x.1 < 2 * l + 1))) || (decide (1 < x.2) && !decide (x.2 - 1 ∈ r.map (·.2)))) := rfl
    refine ⟨fun ha => ⟨cm, fun hb => bad ?_, fun hb => ⟨fun hc => ⟨kok _, _, rfl, fun hd => bad ?_, fun hd => good ?_⟩, fun hc => good ?_⟩⟩, fun ha => ⟨fun hb => bad ?_, fun hb => ⟨fun hc => ⟨kok _, _, rfl, fun hd => bad ?_, fun hd => good ?_⟩, fun hc => good ?_⟩⟩⟩
    · rw [eb, decide_eq_true ha]; exact rb1 _ _ _ _ hb
    · rw [eb, decide_eq_true hc]; exact rb2 _ _ _ hd
    · rw [eb, decide_eq_true ha]; exact rb3 _ _ _ _ hb hd
    · rw [eb, decide_eq_true ha, decide_eq_false hc]; exact rb4 _ _ _ hb
    · rw [eb, decide_eq_false ha]; exact rb5 _ _ _ _ hb
    · rw [eb, decide_eq_true hc]; exact rb2 _ _ _ hd
    · rw [eb, decide_eq_false ha]; exact rb6 _ _ _ _ hb hd
    · rw [eb, decide_eq_false ha, decide_eq_false hc]; exact rb7 _ _ _ hb
  case fin =>
    rintro ρ M4 ⟨x4, x5, rfl, rfl, h4⟩
    refine ⟨trivial, ?_⟩
    walk_at "mp"
    refine mkR _ _ ?_ (s3.upd (s3.none hk))
    rw [s0, List.all_eq_true]
    intro x hx
    rw [h4 x hx]; rfl
theorem region_at {c l : Int} {r : List PR} {M : Mem} {Q : D → Mem → Prop} (h : okR r ∧ 0 ≤ c ∧ c ≤ 3 ∧ 0 ≤ l ∧ l ≤ 3) : r_is_region.f [.int c, .int l, rowD r] M Q = Q (.bl (isRegF c l r)) M := propext ⟨fun ⟨_, q⟩ => q _ ⟨c, l, r, rfl, rfl⟩, fun q => ⟨⟨c, l, r, rfl, h⟩, fun d ⟨c', l', r', e, ed⟩ => by
  simp only [List.cons.injEq, D.int.injEq, and_true] at e
  obtain ⟨rfl, rfl, e1⟩ := e
  rw [ed, ← rowD_inj _ _ e1]; exact q⟩⟩
theorem flat_len {α β : Type} (n : Nat) (g : α → List β) : ∀ xs : List α, (∀ x ∈ xs, (g x).length ≤ n) → ((xs.map g).flatten).length ≤ xs.length * n
  | [], _ => by simp
  | x :: xs, h => by
    rw [List.map_cons, List.flatten_cons, List.length_append, List.length_cons, Nat.succ_mul]
    have h1 := h x List.mem_cons_self
    have h2 := flat_len n g xs fun y hy => h y (List.mem_cons_of_mem _ hy)
    omega
theorem pairs_len (c l : Int) (hc : c ≤ 3) (hl : l ≤ 3) : (pairsF c l).length ≤ 32 := by
  unfold pairsF
  refine Nat.le_trans (flat_len 4 _ _ fun x hx => ?_) ?_
  · rw [List.length_map, List.length_range]; omega
  · rw [List.length_range]; omega
theorem rows_len (c l : Int) (hc : c ≤ 3) (hl : l ≤ 3) : ∀ n : Nat, n ≤ 3 → (rowsF c l n).length ≤ 32 ^ n
  | 0, _ => by simp [rowsF]
  | n + 1, hn => by
    have ih := rows_len c l hc hl n (by omega)
    unfold rowsF stepF
    refine Nat.le_trans (flat_len 32 _ _ fun x hx => ?_) ?_
    · rw [List.length_map]; exact pairs_len c l hc hl
    · rw [Nat.pow_succ]; exact Nat.mul_le_mul_right 32 ih
theorem pairs_ok (c l : Int) (hc : c ≤ 3) (hl : l ≤ 3) : ∀ p ∈ pairsF c l, 0 ≤ p.1 ∧ p.1 ≤ 7 ∧ 0 ≤ p.2 ∧ p.2 ≤ 3 := fun p hp => by
  unfold pairsF at hp
  obtain ⟨ps, h1, h2⟩ := List.mem_flatten.mp hp
  obtain ⟨h, hh, rfl⟩ := List.mem_map.mp h1
  obtain ⟨k, hk, rfl⟩ := List.mem_map.mp h2
  rw [List.mem_range] at hh hk
  dsimp only
  omega
theorem rows_ok (c l : Int) (hc : c ≤ 3) (hl : l ≤ 3) : ∀ n : Nat, ∀ r ∈ rowsF c l n, r.length = n ∧ ∀ x ∈ r, 0 ≤ x.1 ∧ x.1 ≤ 7 ∧ 0 ≤ x.2 ∧ x.2 ≤ 3
  | 0, r, hr => by
    simp [rowsF] at hr
    subst hr
    exact ⟨rfl, fun x hx => by cases hx⟩
  | n + 1, r, hr => by
    unfold rowsF stepF at hr
    obtain ⟨rs, h1, h2⟩ := List.mem_flatten.mp hr
    obtain ⟨q, hq, rfl⟩ := List.mem_map.mp h1
    obtain ⟨p, hp, rfl⟩ := List.mem_map.mp h2
    obtain ⟨k1, k2⟩ := rows_ok c l hc hl n q hq
    refine ⟨by rw [List.length_append, k1]; rfl, fun x hx => ?_⟩
    rcases List.mem_append.mp hx with hx | hx
    · exact k2 x hx
    · rw [List.mem_singleton.mp hx]; exact pairs_ok c l hc hl p hp
theorem map_flat {α β γ : Type} (f : β → γ) (g : α → List β) (xs : List α) : ((xs.map g).flatten).map f = (xs.map fun x => (g x).map f).flatten := by
  rw [List.map_flatten, List.map_map]; rfl
theorem law_all_regions : FnLaw 9 2 w_all_regions r_all_regions := law_newS (fun ds M r c n ⟨c', l, e, e2⟩ => by cases e2) fun ds M cn ⟨c, l, e, hc1, hc3, hl0, hl3⟩ => by
  subst e
  refine ⟨rfl, ?_⟩
  intro R mkR
  have mkR : ∀ p M', M p = none → M' p = some (.lst ((allF c l).map rowD)) → Sub M M' → R (.ref p) M' := fun p M' => mkR p _ M' ⟨c, l, rfl, rfl⟩
  have sz := sizeLine_eq
  unfold w_all_regions rtE
  walk_at "mp"
  refine ⟨by decide, by decide, fun p0 hp0 => ⟨by walk_at "cm", by omega, by omega, ?_⟩⟩
  rw [rng_enc]
  refine lc2_enc (riD 0) (riD 0) (fun _ => List.range (c + 1).toNat) (fun h k => ipD (((h : Nat) : Int), ((k : Nat) : Int))) (fun M1 => M1 p0 = some (.lst [rowD []]) ∧ Sub M M1) (List.range (2 * l + 2).toNat) (fun J mk x hx M1 ⟨k1, s1⟩ => ?_) ?_ (fun M1 ⟨k1, s1⟩ => ?_) _ ⟨mupd_same, Sub.new hp0⟩
  · refine ⟨trivial, ?_⟩
    walk_at "mp"
    refine ⟨by omega, by omega, by rw [rng_enc], mk _ ⟨k1, s1⟩, ?_⟩
    intro y hy M2 hM2
    unfold riD
    walk_at "mp"
    refine ⟨by decide, ?_, mk _ hM2⟩
    rw [ipD_def]
    simp only [Int.zero_add]
  · refine Nat.le_trans (flat_len 4 _ _ fun x hx => ?_) ?_
    · rw [List.length_map, List.length_range]; omega
    · rw [List.length_range]; omega
  refine ⟨trivial, fun p1 hp1 => ?_⟩
  have epairs : ((List.range (2 * l + 2).toNat).map fun h => (List.range (c + 1).toNat).map fun k => ipD (((h : Nat) : Int), ((k : Nat) : Int))).flatten = (pairsF c l).map ipD := by
    unfold pairsF
    rw [map_flat]
    simp only [List.map_map]; rfl
  rw [epairs]
  walk_at "mp"
  refine ⟨by omega, by omega, ?_⟩
  have np : p0 ≠ p1 := fun z => by rw [z, hp1] at k1; cases k1
  refine loop_rng (lo := 0) (n := c.toNat) (fun i ρ M2 => ∃ (x4 : Option D) (a : Addr), ρ = [some (.int c), some (.int l), some (.ref a), some (.ref p1), x4, none, none, none, none] ∧ M2 a = some (.lst ((rowsF c l i).map rowD)) ∧ M2 p1 = some (.lst ((pairsF c l).map ipD)) ∧ Sub M M2) ?step ?fin _ _ ⟨none, p0, rfl, by rw [mupd_ne np]; exact k1, mupd_same, s1.upd (s1.none hp1)⟩
  case step =>
    rintro I mk i ρ M2 hi ⟨x4, a, rfl, h1, h2, h3⟩
    walk_at "mp"
    rw [iseq_lst h1]
    refine lc2_enc rowD ipD (fun _ => pairsF c l) (fun r p => rowD (r ++ [p])) (fun M3 => M3 a = some (.lst ((rowsF c l i).map rowD)) ∧ M3 p1 = some (.lst ((pairsF c l).map ipD)) ∧ Sub M M3) (rowsF c l i) (fun J mk' r hr M3 ⟨k1, k2, k3⟩ => ?_) ?_ (fun M3 ⟨k1, k2, k3⟩ => ?_) _ ⟨h1, h2, h3⟩
    · refine ⟨k1, ?_⟩
      walk_at "mp"
      rw [iseq_lst k2]
      refine ⟨rfl, mk' _ ⟨k1, k2, k3⟩, fun M4 z => z.2.1, fun y hy M4 hM4 => ?_⟩
      unfold rowD
      walk_at "mp"
      have hrl := (rows_ok c l hc3 hl3 i r hr).1
      refine ⟨by decide, ?_, ?_, mk' _ hM4⟩
      · rw [List.length_map]; omega
      · rw [List.map_append]; rfl
    · refine Nat.le_trans (flat_len 32 _ _ fun x hx => ?_) ?_
      · rw [List.length_map]; exact pairs_len c l hc3 hl3
      · have := rows_len c l hc3 hl3 i (by omega)
        have h32 : 32 ^ i ≤ 32 ^ 2 := Nat.pow_le_pow_right (by decide) (by omega)
        omega
    · refine ⟨k1, fun q hq => mk _ _ _ ⟨_, q, rfl, ?_, ?_, k3.upd (k3.none hq)⟩⟩
      · rw [mupd_same]
        show _ = some (MO.lst ((stepF c l (rowsF c l i)).map rowD))
        unfold stepF
        rw [map_flat]
        simp only [List.map_map]; rfl
      · rw [mupd_ne (fun z => by rw [z, hq] at k2; cases k2)]; exact k2
  case fin =>
    rintro ρ M2 ⟨x4, a, rfl, h1, h2, h3⟩
    walk_at "mp"
    rw [iseq_lst h1]
    refine lc_encf rowD (isRegF c l) rowD (fun M3 => M3 a = some (.lst ((rowsF c l c.toNat).map rowD)) ∧ Sub M M3) (rowsF c l c.toNat) (fun J mk' r hr M3 ⟨k1, k3⟩ => ?_) ?_ (fun M3 ⟨k1, k3⟩ => ?_) _ ⟨h1, h3⟩
    · have ok := rows_ok c l hc3 hl3 _ r hr
      refine ⟨k1, ?_⟩
      walk_at "mp"
      rw [region_at ⟨⟨by omega, ok.2⟩, by omega, hc3, hl0, hl3⟩]
      walk_at "mp"
      exact ⟨fun _ => mk' _ ⟨k1, k3⟩, fun _ => mk' _ ⟨k1, k3⟩⟩
    · have := rows_len c l hc3 hl3 c.toNat (by omega)
      have h32 : 32 ^ c.toNat ≤ 32 ^ 3 := Nat.pow_le_pow_right (by decide) (by omega)
      omega
    · refine ⟨k1, fun q hq => mkR q _ (k3.none hq) mupd_same (k3.upd (k3.none hq))⟩
def regG (c l : Int) (x : PR) : Bool := (decide (0 ≤ x.1) && decide (x.1 ≤ 2 * l + 1)) && (decide (0 ≤ x.2) && decide (x.2 ≤ c)) && ((decide (x.2 > 0)) == (decide (x.1 % 2 = 1) && decide (x.1 ≤ 2 * l)))
theorem lawRegF_eq (c l : Int) (r : List PR) : lawRegF c l r = (decide (((r.length : Nat) : Int) = c) && (r.all (regG c l)) && (((List.range (maxRank r + 1).toNat).filter fun k => !decide (((k : Nat) : Int) ∈ (0 :: r.map (·.2) : List Int))).length == 0)) := rfl
theorem isi_tup {xs : List D} {M : Mem} {Q : D → Mem → Prop} : (∃ t b, tyName (.tup xs) M = some t ∧ kitB2 t "tuple" = some b ∧ Q (.bl b) M) = Q (.bl true) M := propext ⟨fun ⟨t, b, e1, e2, q⟩ => by cases e1; rw [kb_tuple_tuple] at e2; cases e2; exact q, fun q => ⟨_, _, rfl, kb_tuple_tuple, q⟩⟩
theorem max_at {q : Addr} {n : Int} {ns : List Int} {M : Mem} {Q : D → Mem → Prop} (h : M q = some (.lst ((n :: ns).map D.int))) : nMax.f [.ref q] M Q = Q (.int (ns.foldl max n)) M := by
  rw [e_nBest]
  have e : maxDD (.int n) (ns.map D.int) = .int (ns.foldl max n) := maxDD_ints ns n
  refine propext ⟨fun ⟨d, e1, z⟩ => ?_, fun z => ⟨_, rfl, ?_⟩⟩
  · cases e1
    rw [items_lst h] at z
    obtain ⟨y, ys, e2, _, _, _, z⟩ := z
    rw [List.map_cons] at e2
    injection e2 with e3 e4
    subst e3 e4
    rw [e] at z; exact z
  · rw [items_lst h]
    refine ⟨.int n, ns.map D.int, rfl, ints_pls (n :: ns), alike_ints (n :: ns), ?_, ?_⟩
    · have := ints_deps (n :: ns); omega
    · rw [e]; exact z
theorem rg1 : ∀ A B C : Bool, (!A) = true → (A && B && C) = false := by decide
theorem rg2 : ∀ A B C : Bool, (!B) = true → (A && B && C) = false := by decide
theorem rg3 : ∀ A B X Y : Bool, (!X == Y) = true → (A && B && (X == (true && Y))) = false := by decide
theorem rg4 : ∀ A B X Y : Bool, (!A) = false → (!B) = false → (!X == Y) = false → (A && B && (X == (true && Y))) = true := by decide
theorem rg5 : ∀ A B X Y : Bool, (!X == false) = true → (A && B && (X == (false && Y))) = false := by decide
theorem rg6 : ∀ A B X Y : Bool, (!A) = false → (!B) = false → (!X == false) = false → (A && B && (X == (false && Y))) = true := by decide
theorem law__law_is_region : FnLaw 6 3 w__law_is_region r__law_is_region := law_some fun ds M cn ⟨c, l, r, e, hr, hc0, hc3, hl0, hl1⟩ => by
  subst e
  refine ⟨rfl, ?_⟩
  intro R mkR
  have mkR : ∀ b M', lawRegF c l r = b → Sub M M' → R (.bl b) M' := fun b M' e s => mkR _ _ ⟨c, l, r, rfl, by rw [e]⟩ s
  have sz := sizeLine_eq
  have hrl := hr.1
  unfold w__law_is_region rtE
  rw [rowD_def]
  walk_at "mp"
  rw [List.length_map]
  refine ⟨fun h1 => mkR _ _ ?_ Sub.refl, fun h1 => ?_⟩
  · have h1' : ¬ ((r.length : Nat) : Int) = c := by simpa using h1
    rw [lawRegF_eq, decide_eq_false h1']; rfl
  have h1' : ((r.length : Nat) : Int) = c := by simpa using h1
  refine ⟨by decide, fun p hp => ?_⟩
  refine loop_enc ipD r (fun pre ρ M1 => ∃ x4 : Option D, ρ = [some (.int c), some (.int l), some (.tup (r.map ipD)), some (.ref p), x4, none] ∧ M1 p = some (.lst ((0 :: pre.map (·.2)).map D.int)) ∧ Sub M M1 ∧ ∀ x ∈ pre, regG c l x = true) ?step ?fin _ _ ⟨none, rfl, mupd_same, Sub.new hp, fun x hx => by cases hx⟩
  case step =>
    rintro I mk pre x post ρ M1 e ⟨x4, rfl, k1, k2, k3⟩
    have hxm : x ∈ r := by rw [e]; simp
    have bad : regG c l x = false → R (.bl false) M1 := fun hb => mkR _ _ (by
      have : r.all (regG c l) = false := by rw [List.all_eq_false]; exact ⟨x, hxm, by rw [hb]; decide⟩
      rw [lawRegF_eq, this, Bool.and_false]; rfl) k2
    have good : regG c l x = true → I (pre ++ [x]) [some (.int c), some (.int l), some (.tup (r.map ipD)), some (.ref p), some (ipD x), none] (mupd M1 p (.lst ((0 :: pre.map (·.2)).map D.int ++ [.int x.2]))) := fun hb => mk _ _ _ ⟨_, rfl, by rw [mupd_same]; simp, k2.upd hp, fun y hy => by
      rcases List.mem_append.mp hy with hy | hy
      · exact k3 y hy
      · rw [List.mem_singleton.mp hy]; exact hb⟩
    have hpl : ((0 :: pre.map (·.2)).map D.int).length < sizeLine := by
      have e3 := congrArg List.length e
      simp only [List.length_append, List.length_cons] at e3
      simp only [List.length_map, List.length_cons]; omega
    have cm : CMul 2 l := by walk_at "cm"
    have eg : regG c l x = ((decide (0 ≤ x.1) && decide (x.1 ≤ 2 * l + 1)) && (decide (0 ≤ x.2) && decide (x.2 ≤ c)) && ((decide (0 < x.2)) == (decide (x.1 % 2 = 1) && decide (x.1 ≤ 2 * l)))) := rfl
    refine ⟨trivial, ?_⟩
    walk_at "mp"
    simp only [ip0, ip1, MP.int_at, ty_lst k1]
    rw [ipD_def x, tn_tup]
    walk_at "mp"
    try simp only [MP.int_at, ty_lst k1]
    refine ⟨fun z => by simp at z, fun _ => ⟨cm, fun h2 => bad ?_, fun h2 => ⟨fun h3 => bad ?_, fun h3 => ⟨by decide, fun ha => ⟨cm, fun hb => bad ?_, fun hb => ⟨trivial, _, k1, hpl, good ?_⟩⟩, fun ha => ⟨fun hb => bad ?_, fun hb => ⟨trivial, _, k1, hpl, good ?_⟩⟩⟩⟩⟩⟩
    · rw [eg]; exact rg1 _ _ _ h2
    · rw [eg]; exact rg2 _ _ _ h3
    · rw [eg, decide_eq_true ha]; exact rg3 _ _ _ _ hb
    · rw [eg, decide_eq_true ha]; exact rg4 _ _ _ _ h2 h3 hb
    · rw [eg, decide_eq_false ha]; exact rg5 _ _ _ _ hb
    · rw [eg, decide_eq_false ha]; exact rg6 _ _ _ _ h2 h3 hb
  case fin =>
    rintro ρ M1 ⟨x4, rfl, k1, k2, k3⟩
    refine ⟨trivial, ?_⟩
    walk_at "mp"
    rw [items_lst k1]
    have hmr := maxRank_bd hr
    refine ⟨.int 0, (r.map (·.2)).map D.int, rfl, ints_pls _, alike_ints _, Nat.le_trans (ints_deps (0 :: r.map fun x : PR => x.2)) (by decide), ?_⟩
    rw [maxDD_ints]
    walk_at "mp"
    have em : (r.map (·.2)).foldl max 0 = maxRank r := rfl
    rw [em]
    refine ⟨by omega, by omega, ?_⟩
    rw [rng_enc]
    refine lc_encf (riD 0) (fun k => !decide (((k : Nat) : Int) ∈ (0 :: r.map (·.2) : List Int))) (riD 0) (fun M2 => M2 p = some (.lst ((0 :: r.map (·.2)).map D.int)) ∧ Sub M M2) (List.range (maxRank r + 1).toNat) (fun J mk k hk M2 ⟨j1, j2⟩ => ?_) (by rw [List.length_range]; omega) (fun M2 ⟨j1, j2⟩ => ?_) _ ⟨k1, k2⟩
    · refine ⟨trivial, ?_⟩
      unfold riD
      walk_at "mp"
      rw [in_lst j1]
      walk_at "mp"
      have ea : ((D.int 0 :: (r.map (·.2)).map D.int).any fun x => eqD x (.int (0 + ((k : Nat) : Int)))) = decide (((k : Nat) : Int) ∈ (0 :: r.map (·.2) : List Int)) := by
        have := any_enc D.int (fun _ => rfl) (fun a b e => by cases e; rfl) (0 :: r.map (·.2)) (0 + ((k : Nat) : Int))
        rw [Int.zero_add] at this ⊢
        exact this
      rw [ea]
      exact ⟨ints_pls (0 :: r.map fun x : PR => x.2), rfl, Nat.le_trans (Nat.min_le_left _ _) (Nat.le_trans (ints_deps (0 :: r.map fun x : PR => x.2)) (by decide)), rfl, fun _ => mk _ ⟨j1, j2⟩, fun _ => mk _ ⟨j1, j2⟩⟩
    · refine ⟨trivial, fun q hq => ?_⟩
      rw [len_lst mupd_same]
      refine mkR _ _ ?_ (j2.upd (j2.none hq))
      have hall : r.all (regG c l) = true := List.all_eq_true.mpr k3
      rw [lawRegF_eq, hall, decide_eq_true h1', List.length_map]
      show (_ == 0) = decide _
      by_cases h0 : ((List.range (maxRank r + 1).toNat).filter fun k => !decide (((k : Nat) : Int) ∈ (0 :: r.map (·.2) : List Int))).length = 0
      · rw [h0]; rfl
      · rw [beq_eq_false_iff_ne.mpr h0, decide_eq_false (by omega)]
theorem lawreg_at {c l : Int} {r : List PR} {M : Mem} {Q : D → Mem → Prop} (h : okR r ∧ 0 ≤ c ∧ c ≤ 3 ∧ 0 ≤ l ∧ l ≤ 3) : r__law_is_region.f [.int c, .int l, rowD r] M Q = Q (.bl (lawRegF c l r)) M := propext ⟨fun ⟨_, q⟩ => q _ ⟨c, l, r, rfl, rfl⟩, fun q => ⟨⟨c, l, r, rfl, h⟩, fun d ⟨c', l', r', e, ed⟩ => by
  simp only [List.cons.injEq, D.int.injEq, and_true] at e
  obtain ⟨rfl, rfl, e1⟩ := e
  rw [ed, ← rowD_inj _ _ e1]; exact q⟩⟩
/-! ### the facts about all rows -/
def topR (c l : Int) : List PR := List.replicate c.toNat (2 * l + 1, 0)
def manyF (c l : Int) : Int := if c = 3 then (l + 2) * (l + 2) * (l + 2) + 3 * (l + 2) * (l + 2) * l + 9 * (l + 2) * l * l + 13 * l * l * l else if c = 1 then 2 * l + 2 else (l + 2) ^ 2 + 2 * l * (l + 2) + 3 * l ^ 2
def ltPR : List PR → List PR → Bool
  | [], [] => false
  | [], _ :: _ => true
  | _ :: _, [] => false
  | x :: xs, y :: ys => if x = y then ltPR xs ys else decide (x.1 < y.1 ∨ (x.1 = y.1 ∧ x.2 < y.2))
def upR : List (List PR) → Bool
  | [] => true
  | [_] => true
  | x :: y :: r => ltPR x y && upR (y :: r)
def okRow (c l : Int) (r : List PR) : Bool := lawRegF c l r && decide (regionF (sampleF r l) l = r) && ((laterF r l).isNone == decide (r = topR c l))
def factA (c l : Int) : Bool := upR (allF c l) && decide ((((allF c l).length : Nat) : Int) = manyF c l) && (allF c l).all (okRow c l)
theorem fact_10 : factA 1 0 = true := by decide +kernel
theorem fact_11 : factA 1 1 = true := by decide +kernel
theorem fact_12 : factA 1 2 = true := by decide +kernel
theorem fact_13 : factA 1 3 = true := by decide +kernel
theorem fact_20 : factA 2 0 = true := by decide +kernel
theorem fact_21 : factA 2 1 = true := by decide +kernel
theorem fact_22 : factA 2 2 = true := by decide +kernel
theorem fact_23 : factA 2 3 = true := by decide +kernel
theorem fact_30 : factA 3 0 = true := by decide +kernel
theorem fact_31 : factA 3 1 = true := by decide +kernel
/-! ### drawn values -/
def clsF (l : Int) (v : PR) : PR := if v.1 / v.2 > l ∨ (v.1 / v.2 = l ∧ v.1 % v.2 > 0) then (l + 1, 1) else if v.1 % v.2 = 0 then (v.1 / v.2, 1) else v
theorem cls_parts (l : Int) : ∀ vs : List PR, (∀ x ∈ vs, okM x) → partsF (vs.map (clsF l)) l = partsF vs l
  | [], _ => rfl
  | v :: vs, h => by
    have ih := cls_parts l vs fun x hx => h x (List.mem_cons_of_mem _ hx)
    have hv := okM_rest_lt (h v List.mem_cons_self)
    unfold partsF at ih ⊢
    rw [List.map_cons]
    by_cases c1 : v.1 / v.2 > l ∨ (v.1 / v.2 = l ∧ v.1 % v.2 > 0)
    · have e1 : clsF l v = (l + 1, 1) := by unfold clsF; rw [if_pos c1]
      rw [e1, List.filter_cons_of_neg, List.filter_cons_of_neg, ih]
      · simp only [Bool.and_eq_true, decide_eq_true_eq]; omega
      · simp only [Bool.and_eq_true, decide_eq_true_eq, Int.ediv_one]; omega
    · by_cases c2 : v.1 % v.2 = 0
      · have e1 : clsF l v = (v.1 / v.2, 1) := by unfold clsF; rw [if_neg c1, if_pos c2]
        rw [e1, List.filter_cons_of_neg, List.filter_cons_of_neg, ih]
        · simp only [Bool.and_eq_true, decide_eq_true_eq]; omega
        · simp only [Bool.and_eq_true, decide_eq_true_eq, Int.emod_one]; omega
      · have e1 : clsF l v = v := by unfold clsF; rw [if_neg c1, if_neg c2]
        rw [e1]
        by_cases c3 : (decide (v.1 / v.2 < l) && decide (0 < v.1 % v.2)) = true
        · simp only [List.filter_cons, c3, if_true, List.map_cons, ih]
        · simp only [List.filter_cons, c3, if_false, ih, Bool.false_eq_true]
theorem cls_pair (l : Int) (v : PR) (st : List PR) : pairF (clsF l v) l st = pairF v l st := by
  by_cases c1 : v.1 / v.2 > l ∨ (v.1 / v.2 = l ∧ v.1 % v.2 > 0)
  · have e1 : clsF l v = (l + 1, 1) := by unfold clsF; rw [if_pos c1]
    rw [e1]
    unfold pairF
    rw [if_pos c1, if_pos (by left; simp only [Int.ediv_one]; omega)]
  · by_cases c2 : v.1 % v.2 = 0
    · have e1 : clsF l v = (v.1 / v.2, 1) := by unfold clsF; rw [if_neg c1, if_pos c2]
      rw [e1]
      unfold pairF
      simp only [Int.ediv_one, Int.emod_one]
      rw [if_neg c1, if_pos c2, if_neg (by omega), if_pos trivial]
    · have e1 : clsF l v = v := by unfold clsF; rw [if_neg c1, if_neg c2]
      rw [e1]
theorem cls_region (l : Int) (vs : List PR) (h : ∀ x ∈ vs, okM x) : regionF (vs.map (clsF l)) l = regionF vs l := by
  unfold regionF
  rw [cls_parts l vs h, List.map_map]
  refine List.map_congr_left fun v hv => ?_
  exact cls_pair l v _
def fracs : List PR := ((List.range 4).map fun (j : Nat) => (List.range (4 * (j + 1) + 1)).map fun (u : Nat) => momF ((u : Nat) : Int) (((j : Nat) : Int) + 1)).flatten
def clsL (l : Int) : List PR := dedupF [] (fracs.map (clsF l))
theorem frac_mem {u v : Int} (h0 : 0 ≤ u) (h1 : u ≤ 4 * v) (h2 : 1 ≤ v) (h3 : v ≤ 4) : momF u v ∈ fracs := by
  refine List.mem_flatten.mpr ⟨_, List.mem_map.mpr ⟨(v - 1).toNat, List.mem_range.mpr (by omega), rfl⟩, List.mem_map.mpr ⟨u.toNat, List.mem_range.mpr (by omega), ?_⟩⟩
  congr 1 <;> omega
theorem fracs_ok : ∀ x ∈ fracs, okM x := by unfold okM; decide +kernel
theorem cls_mem {l : Int} {x : PR} (h : x ∈ fracs) : clsF l x ∈ clsL l := by
  unfold clsL
  rw [← dedupL_eq]
  exact (dedupL_mem _ [] _).mpr (.inr (List.mem_map.mpr ⟨x, h, rfl⟩))
def fB1 (l : Int) : Bool := (clsL l).all fun a => isRegF 1 l (regionF [a] l)
def fB2 (l : Int) : Bool := (clsL l).all fun a => (clsL l).all fun b => isRegF 2 l (regionF [a, b] l)
def fB3 (l : Int) : Bool := (clsL l).all fun a => (clsL l).all fun b => (clsL l).all fun d => isRegF 3 l (regionF [a, b, d] l)
theorem fB_10 : fB1 0 = true := by decide +kernel
theorem fB_11 : fB1 1 = true := by decide +kernel
theorem fB_12 : fB1 2 = true := by decide +kernel
theorem fB_13 : fB1 3 = true := by decide +kernel
theorem fB_20 : fB2 0 = true := by decide +kernel
theorem fB_21 : fB2 1 = true := by decide +kernel
theorem fB_22 : fB2 2 = true := by decide +kernel
theorem fB_23 : fB2 3 = true := by decide +kernel
theorem fB_30 : fB3 0 = true := by decide +kernel
theorem fB_31 : fB3 1 = true := by decide +kernel
theorem mem_rows (c l : Int) : ∀ (n : Nat) (r : List PR), r.length = n → (∀ x ∈ r, x ∈ pairsF c l) → r ∈ rowsF c l n
  | 0, r, h, _ => by
    have : r = [] := List.eq_nil_of_length_eq_zero h
    rw [this]; simp [rowsF]
  | n + 1, r, h, hx => by
    have hne : r ≠ [] := fun z => by rw [z] at h; cases h
    have e := List.dropLast_concat_getLast hne
    unfold rowsF stepF
    refine List.mem_flatten.mpr ⟨_, List.mem_map.mpr ⟨r.dropLast, mem_rows c l n r.dropLast (by rw [List.length_dropLast, h]; rfl) (fun x hx' => hx x ((List.dropLast_sublist r).subset hx')), rfl⟩, List.mem_map.mpr ⟨r.getLast hne, hx _ (List.getLast_mem hne), e⟩⟩
theorem mem_allF {c l : Int} {r : List PR} (h : isRegF c l r = true) : r ∈ allF c l := by
  have h' := h
  rw [isRegF_eq, Bool.and_eq_true, Bool.and_eq_true, decide_eq_true_eq, List.all_eq_true] at h
  refine List.mem_filter.mpr ⟨mem_rows c l _ r (by omega) fun x hx => ?_, h'⟩
  have := h.1.2 x hx
  unfold regOk1 at this
  rw [Bool.and_eq_true, decide_eq_true_eq, decide_eq_true_eq] at this
  unfold pairsF
  refine List.mem_flatten.mpr ⟨_, List.mem_map.mpr ⟨x.1.toNat, List.mem_range.mpr (by omega), rfl⟩, List.mem_map.mpr ⟨x.2.toNat, List.mem_range.mpr (by omega), ?_⟩⟩
  refine Prod.ext ?_ ?_ <;> dsimp only <;> omega
/-- which numbers of clocks with which limits -/
def okCL (c l : Int) : Prop := ((c = 1 ∨ c = 2) ∧ 0 ≤ l ∧ l ≤ 3) ∨ (c = 3 ∧ 0 ≤ l ∧ l ≤ 1)
theorem okCL_cases {c l : Int} (h : okCL c l) : (c = 1 ∧ (l = 0 ∨ l = 1 ∨ l = 2 ∨ l = 3)) ∨ (c = 2 ∧ (l = 0 ∨ l = 1 ∨ l = 2 ∨ l = 3)) ∨ (c = 3 ∧ (l = 0 ∨ l = 1)) := by
  unfold okCL at h; omega
theorem fact_all {c l : Int} (h : okCL c l) : factA c l = true := by
  rcases okCL_cases h with ⟨rfl, rfl | rfl | rfl | rfl⟩ | ⟨rfl, rfl | rfl | rfl | rfl⟩ | ⟨rfl, rfl | rfl⟩
  · exact fact_10
  · exact fact_11
  · exact fact_12
  · exact fact_13
  · exact fact_20
  · exact fact_21
  · exact fact_22
  · exact fact_23
  · exact fact_30
  · exact fact_31
theorem values_in {c l : Int} (h : okCL c l) (vs : List PR) (hl : ((vs.length : Nat) : Int) = c) (hv : ∀ x ∈ vs, x ∈ fracs) : regionF vs l ∈ allF c l := by
  rw [← cls_region l vs fun x hx => fracs_ok x (hv x hx)]
  apply mem_allF
  have k1 : ∀ l, fB1 l = true → ∀ a, a ∈ fracs → isRegF 1 l (regionF ([a].map (clsF l)) l) = true := fun l hf a ha => List.all_eq_true.mp hf _ (cls_mem ha)
  have k2 : ∀ l, fB2 l = true → ∀ a b, a ∈ fracs → b ∈ fracs → isRegF 2 l (regionF ([a, b].map (clsF l)) l) = true := fun l hf a b ha hb => List.all_eq_true.mp (List.all_eq_true.mp hf _ (cls_mem ha)) _ (cls_mem hb)
  have k3 : ∀ l, fB3 l = true → ∀ a b d, a ∈ fracs → b ∈ fracs → d ∈ fracs → isRegF 3 l (regionF ([a, b, d].map (clsF l)) l) = true := fun l hf a b d ha hb hd => List.all_eq_true.mp (List.all_eq_true.mp (List.all_eq_true.mp hf _ (cls_mem ha)) _ (cls_mem hb)) _ (cls_mem hd)
  rcases okCL_cases h with ⟨rfl, hl'⟩ | ⟨rfl, hl'⟩ | ⟨rfl, hl'⟩
  · match vs, hl, hv with
    | [a], _, hv =>
      have ha := hv a (by simp)
      rcases hl' with rfl | rfl | rfl | rfl
      · exact k1 _ fB_10 a ha
      · exact k1 _ fB_11 a ha
      · exact k1 _ fB_12 a ha
      · exact k1 _ fB_13 a ha
    | [], hl, _ => simp at hl
    | _ :: _ :: _, hl, _ => simp at hl; omega
  · match vs, hl, hv with
    | [a, b], _, hv =>
      have ha := hv a (by simp)
      have hb := hv b (by simp)
      rcases hl' with rfl | rfl | rfl | rfl
      · exact k2 _ fB_20 a b ha hb
      · exact k2 _ fB_21 a b ha hb
      · exact k2 _ fB_22 a b ha hb
      · exact k2 _ fB_23 a b ha hb
    | [], hl, _ => simp at hl
    | [_], hl, _ => simp at hl
    | _ :: _ :: _ :: _, hl, _ => simp at hl; omega
  · match vs, hl, hv with
    | [a, b, d], _, hv =>
      have ha := hv a (by simp)
      have hb := hv b (by simp)
      have hd := hv d (by simp)
      rcases hl' with rfl | rfl
      · exact k3 _ fB_30 a b d ha hb hd
      · exact k3 _ fB_31 a b d ha hb hd
    | [], hl, _ => simp at hl
    | [_], hl, _ => simp at hl
    | [_, _], hl, _ => simp at hl
    | _ :: _ :: _ :: _ :: _, hl, _ => simp at hl; omega
theorem rowLt_pr : ∀ (r s : List PR), r.length = s.length → PySem.W.rowLt (D.pys (r.map ipD)) (D.pys (s.map ipD)) = ltPR r s
  | [], [], _ => PyProof.Rows.lex_irrefl _
  | [], _ :: _, h => by cases h
  | _ :: _, [], h => by cases h
  | x :: xs, y :: ys, h => by
    have ih := rowLt_pr xs ys (by simpa using h)
    unfold PySem.W.rowLt at ih ⊢
    rw [List.map_cons, List.map_cons, D.pys, D.pys, PySem.W.dataLt_cons (by rfl), ih]
    have e1 : PyData.eqv (ipD x).py (ipD y).py = decide (x = y) := eqD_dec ipD ipD_nb ipD_inj x y
    have e2 : PySem.W.dataLt (ipD x).py (ipD y).py = decide (x.1 < y.1 ∨ (x.1 = y.1 ∧ x.2 < y.2)) := PySem.W.dataLt_ii x.1 x.2 y.1 y.2
    rw [e1, e2, ltPR]
    by_cases hxy : x = y
    · rw [decide_eq_true hxy, if_pos rfl, if_pos hxy]
    · rw [decide_eq_false hxy, if_neg (by decide), if_neg hxy]
theorem ltD_row {r s : List PR} (h : r.length = s.length) : ltD (rowD r) (rowD s) = ltPR r s := by
  rw [← rowLt_pr r s h]
  show PySem.W.dataLt (.tuple (D.pys (r.map ipD))) (.tuple (D.pys (s.map ipD))) = _
  rw [PySem.W.dataLt_tuple]; rfl
theorem up_rows (n : Nat) : ∀ rows : List (List PR), (∀ r ∈ rows, r.length = n) → upB (rows.map rowD) = upR rows
  | [], _ => rfl
  | [_], _ => rfl
  | x :: y :: rs, h => by
    have ih := up_rows n (y :: rs) fun r hr => h r (List.mem_cons_of_mem _ hr)
    rw [List.map_cons] at ih
    rw [List.map_cons, List.map_cons, upB, upR, ih, ltD_row (by rw [h x (by simp), h y (by simp)])]
theorem alike_prs : ∀ (r s : List PR), PySem.W.alikeAll (D.pys (r.map ipD)) (D.pys (s.map ipD)) = true
  | [], s => by rw [List.map_nil, D.pys, PySem.W.alikeAll]
  | _ :: _, [] => by rw [List.map_nil, List.map_cons, D.pys, D.pys, PySem.W.alikeAll]
  | x :: xs, y :: ys => by
    rw [List.map_cons, List.map_cons, D.pys, D.pys, PySem.W.alikeAll, alike_prs xs ys]; rfl
theorem okLt_row (r s : List PR) : okLt (rowD r) (rowD s) := by
  refine ⟨⟨_, _, rfl, rfl⟩, ?_, ?_, rowD_pl r, rowD_pl s⟩
  · show PySem.W.alike (.tuple _) (.tuple _) = true
    rw [PySem.W.alike]; exact alike_prs r s
  · have := rowD_dep r; omega
theorem all_regions_at {c l : Int} {M : Mem} {Q : D → Mem → Prop} (h : 1 ≤ c ∧ c ≤ 3 ∧ 0 ≤ l ∧ l ≤ 3) : r_all_regions.f [.int c, .int l] M Q = ∀ p, M p = none → Q (.ref p) (mupd M p (.lst ((allF c l).map rowD))) := by
  rw [r_all_regions, e_nNewS]
  refine propext ⟨fun ⟨_, q⟩ p hp => q _ ⟨c, l, rfl, rfl⟩ p hp, fun q => ⟨⟨c, l, rfl, h⟩, fun o ⟨c', l', e, eo⟩ p hp => ?_⟩⟩
  simp only [List.cons.injEq, D.int.injEq, and_true] at e
  obtain ⟨rfl, rfl⟩ := e
  subst eo
  exact q p hp
theorem sample_at {r : List PR} {l : Int} {M : Mem} {Q : D → Mem → Prop} (h : okR r) (h0 : 0 ≤ l) (h1 : l ≤ 3) : r_sample.f [rowD r, .int l] M Q = Q (rowD (sampleF r l)) M := propext ⟨fun ⟨_, q⟩ => q _ ⟨r, l, rfl, rfl⟩, fun q => ⟨⟨r, l, rfl, h, h0, h1⟩, fun d ⟨r', l', e, ed⟩ => by
  simp only [List.cons.injEq, D.int.injEq, and_true] at e
  obtain ⟨e1, rfl⟩ := e
  rw [ed, ← rowD_inj _ _ e1]; exact q⟩⟩
def laterD (r : List PR) (l : Int) : D := match laterF r l with | some r' => rowD r' | none => .non
theorem later_at {r : List PR} {l : Int} {M : Mem} {Q : D → Mem → Prop} (h : okR r) (h0 : 0 ≤ l) (h1 : l ≤ 3) : r_later.f [rowD r, .int l] M Q = Q (laterD r l) M := propext ⟨fun ⟨_, q⟩ => q _ ⟨r, l, rfl, rfl⟩, fun q => ⟨⟨r, l, rfl, h, h0, h1⟩, fun d ⟨r', l', e, ed⟩ => by
  simp only [List.cons.injEq, D.int.injEq, and_true] at e
  obtain ⟨e1, rfl⟩ := e
  rw [ed, ← rowD_inj _ _ e1]; exact q⟩⟩
theorem laterD_non (r : List PR) (l : Int) : (laterD r l).isNon = (laterF r l).isNone := by
  unfold laterD; cases laterF r l <;> rfl
theorem region_of_at {vs : List PR} {l : Int} {M : Mem} {Q : D → Mem → Prop} (h : vs.length ≤ 3 ∧ (∀ x ∈ vs, okM x) ∧ 0 ≤ l ∧ l < 1000) : r_region_of.f [rowD vs, .int l] M Q = Q (rowD (regionF vs l)) M := propext ⟨fun ⟨_, q⟩ => q _ ⟨vs, l, rfl, rfl⟩, fun q => ⟨⟨vs, l, rfl, h⟩, fun d ⟨r', l', e, ed⟩ => by
  simp only [List.cons.injEq, D.int.injEq, and_true] at e
  obtain ⟨e1, rfl⟩ := e
  rw [ed, ← rowD_inj _ _ e1]; exact q⟩⟩
theorem allF_ok {c l : Int} (hc : 0 ≤ c ∧ c ≤ 3) (hl : l ≤ 3) {r : List PR} (h : r ∈ allF c l) : okR r ∧ ((r.length : Nat) : Int) = c := by
  have ok := rows_ok c l hc.2 hl _ r (List.mem_filter.mp h).1
  exact ⟨⟨by omega, ok.2⟩, by omega⟩
theorem momF_ok {p q : Int} (hp : 0 ≤ p) (hp2 : p < 1000000) (hq : 0 < q) (hq2 : q < 20000) : okM (momF p q) := by
  have g1 : 0 < Int.gcd p q := Int.gcd_pos_of_ne_zero_right _ (by omega)
  have g2 : (Int.gcd p q : Int) ≤ q := Int.le_of_dvd hq (Int.gcd_dvd_right ..)
  refine ⟨Int.ediv_nonneg hp (by omega), ?_, Int.ediv_pos_of_pos_of_dvd hq (by omega) (Int.gcd_dvd_right ..), ?_⟩
  · have := Int.ediv_le_self (Int.gcd p q : Int) hp
    show p / _ < _
    omega
  · have := Int.ediv_le_self (Int.gcd p q : Int) (Int.le_of_lt hq)
    show q / _ < _
    omega
theorem sample_ok {r : List PR} {l : Int} (h : okR r) (h0 : 0 ≤ l) (h1 : l ≤ 3) : ∀ x ∈ sampleF r l, okM x := fun x hx => by
  unfold sampleF at hx
  obtain ⟨y, hy, rfl⟩ := List.mem_map.mp hx
  have hm := maxRank_bd h
  have hy' := h.2 y hy
  split
  · unfold okM; dsimp only; omega
  · have e1 : 0 ≤ y.1 / 2 * (1 + maxRank r) := Int.mul_nonneg (by omega) (by omega)
    have e2 : y.1 / 2 * (1 + maxRank r) ≤ 3 * 4 := Int.mul_le_mul (by omega) (by omega) (by omega) (by decide)
    exact momF_ok (by omega) (by omega) (by omega) (by omega)
theorem Vw.refl {P : Program} {w : World} {K : PySem.W.Frag} {M : Mem} : Vw P w K M M := ⟨fun _ h => h, fun _ h => h⟩
theorem law_any {n : Nat} {b : WS} (h : ∀ (ns : List Int) (M : Mem), Cons M → ns.length ≤ 63 → ∀ R : D → Mem → Prop, (∀ M', R (.bl true) M') → b.f (rtE R) (startD n [.fl (ns.map .int)]) M) : FnLaw n 1 b r_law := fun P w K H ds M Q rm ⟨⟨ns, e, hl⟩, q⟩ => by
  subst e
  refine ⟨rfl, M, rm, fun _ z => z, b.mono (rtE fun d _ => d = .bl true) _ _ _ ⟨fun _ M' z => ?_, fun d M' z => ?_, fun _ _ z => z, fun _ _ z => z⟩ (h ns M rm.cons hl _ fun _ => rfl)⟩
  · cases z
  · exact ⟨M', Vw.refl, by rw [z]; exact q M'⟩
theorem many_pos {c l : Int} (h : okCL c l) : 0 < manyF c l := by
  rcases okCL_cases h with ⟨rfl, rfl | rfl | rfl | rfl⟩ | ⟨rfl, rfl | rfl | rfl | rfl⟩ | ⟨rfl, rfl | rfl⟩ <;> decide
theorem row_eqn {n : Bool} {r s : List PR} {M : Mem} {Q : D → Mem → Prop} : (rEqn n).f (rowD r) (rowD s) M Q = Q (.bl (xor n (decide (r = s)))) M := by
  have e : eqD (rowD r) (rowD s) = decide (r = s) := eqD_dec rowD rowD_nb rowD_inj r s
  have d1 := rowD_dep r
  have h : (rEqn n).f (rowD r) (rowD s) M Q = ((rowD r).pl ∧ (rowD s).pl ∧ min (rowD r).dep (rowD s).dep ≤ 60 ∧ Q (.bl (xor n (eqD (rowD r) (rowD s)))) M) := e_rEqn_tup ..
  rw [h, e]
  exact propext ⟨fun z => z.2.2.2, fun z => ⟨rowD_pl r, rowD_pl s, by omega, z⟩⟩
theorem top_row (c l : Int) : D.tup (List.replicate c.toNat [D.tup [D.int (2 * l + 1), D.int 0]]).flatten = rowD (topR c l) := by
  rw [rowD_def, List.flatten_replicate_singleton]
  unfold topR
  rw [List.map_replicate]; rfl
theorem ys_of : ∀ ys : List D, (∀ y ∈ ys, ∃ x ∈ fracs, y = ipD x) → ∃ vs : List PR, ys = vs.map ipD ∧ ∀ x ∈ vs, x ∈ fracs
  | [], _ => ⟨[], rfl, fun x hx => by cases hx⟩
  | y :: ys, h => by
    obtain ⟨x, hx, rfl⟩ := h y (List.mem_cons_self ..)
    obtain ⟨vs, rfl, hv⟩ := ys_of ys fun z hz => h z (List.mem_cons_of_mem _ hz)
    refine ⟨x :: vs, rfl, fun z hz => ?_⟩
    rcases List.mem_cons.mp hz with rfl | hz
    · exact hx
    · exact hv z hz
theorem rngD_len (lo : Int) (n : Nat) : (rngD lo n).length = n := by simp [rngD]
theorem law_law : FnLaw 11 1 w_law r_law := law_any fun ns M cn hns R mkR => by
  have sz := sizeLine_eq
  unfold w_law rtE
  -- the pool
  refine seq_cut (fun ρ M1 => ∃ p pr pc, ρ = [some (.fl (ns.map .int)), some (.ref p), none, none, none, none, none, none, none, none, none] ∧ M1 p = some (.pool pr pc 0)) (fun I mk => ?_) ?_
  · walk_at "mp"
    exact ⟨⟨ns, rfl, hns⟩, fun p pr pc hp hpr hpc n1 n2 n3 => mk _ _ ⟨p, pr, pc, rfl, mupd_same⟩⟩
  rintro _ M1 ⟨p, pr, pc, rfl, h0⟩
  -- the number of clocks, the limit
  refine seq_cut (fun ρ M2 => ∃ c : Int, ρ = [some (.fl (ns.map .int)), some (.ref p), some (.int c), none, none, none, none, none, none, none, none] ∧ M2 p = some (.pool pr pc 1) ∧ (c = 1 ∨ c = 2)) (fun I mk => ?_) ?_
  · walk_at "mp"
    rw [draw_at h0]
    refine ⟨by decide, by decide, fun c0 hc0 hc1 => ?_⟩
    walk_at "mp"
    exact mk _ _ ⟨1 + c0, rfl, mupd_same, by omega⟩
  rintro _ M2 ⟨c, rfl, h1, hc⟩
  refine seq_cut (fun ρ M2 => ∃ l : Int, ρ = [some (.fl (ns.map .int)), some (.ref p), some (.int c), some (.int l), none, none, none, none, none, none, none] ∧ M2 p = some (.pool pr pc 2) ∧ 0 ≤ l ∧ l ≤ 3) (fun I mk => ?_) ?_
  · walk_at "mp"
    rw [draw_at h1]
    refine ⟨by decide, by decide, fun c0 hc0 hc1 => ?_⟩
    walk_at "mp"
    exact mk _ _ ⟨c0, rfl, mupd_same, by omega, by omega⟩
  rintro _ M3 ⟨l, rfl, h2, hl0, hl1⟩
  refine seq_cut (fun ρ M2 => ∃ c l : Int, ρ = [some (.fl (ns.map .int)), some (.ref p), some (.int c), some (.int l), none, none, none, none, none, none, none] ∧ (∃ n, M2 p = some (.pool pr pc n) ∧ n ≤ 10) ∧ okCL c l) (fun I mk => ?_) ?_
  · walk_at "mp"
    rw [draw_at h2]
    refine ⟨by decide, by decide, fun k0 hk0 hk1 => ?_⟩
    walk_at "mp"
    have h3 : mupd M3 p (.pool pr pc (2 + 1)) p = some (.pool pr pc (2 + 1)) := mupd_same
    refine ⟨fun _ => ?_, fun _ => mk _ _ ⟨c, l, rfl, ⟨_, mupd_same, by decide⟩, .inl ⟨hc, hl0, hl1⟩⟩⟩
    rw [draw_at h3]
    refine ⟨by decide, by decide, fun l0 hl0 hl1 => ?_⟩
    walk_at "mp"
    exact mk _ _ ⟨3, l0, rfl, ⟨_, mupd_same, by decide⟩, .inr ⟨rfl, by omega, by omega⟩⟩
  rintro _ M4 ⟨c, l, rfl, ⟨n4, h4, hn4⟩, hcl⟩
  have hf := fact_all hcl
  have hb : 1 ≤ c ∧ c ≤ 3 ∧ 0 ≤ l ∧ l ≤ 3 := by unfold okCL at hcl; omega
  unfold factA at hf
  rw [Bool.and_eq_true, Bool.and_eq_true, decide_eq_true_eq, List.all_eq_true] at hf
  obtain ⟨⟨f1, f2⟩, f3⟩ := hf
  obtain ⟨rows, erows⟩ : ∃ rows, rows = allF c l := ⟨_, rfl⟩
  rw [← erows] at f1 f2 f3
  have rok : ∀ r ∈ rows, okR r ∧ ((r.length : Nat) : Int) = c := fun r hr => by rw [erows] at hr; exact allF_ok ⟨by omega, hb.2.1⟩ hb.2.2.2 hr
  -- the rows
  refine seq_cut (fun ρ M5 => ∃ a, ρ = [some (.fl (ns.map .int)), some (.ref p), some (.int c), some (.int l), some (.ref a), none, none, none, none, none, none] ∧ (∃ n, M5 p = some (.pool pr pc n) ∧ n ≤ 10) ∧ M5 a = some (.lst (rows.map rowD))) (fun I mk => ?_) ?_
  · walk_at "mp"
    rw [all_regions_at hb]
    intro a ha
    rw [← erows]
    exact mk _ _ ⟨a, rfl, ⟨n4, by rw [mupd_ne (fun z => by rw [z, ha] at h4; cases h4)]; exact h4, hn4⟩, mupd_same⟩
  rintro _ M5 ⟨a, rfl, ⟨n5, h5, hn5⟩, ha⟩
  -- how many there are
  refine seq_cut (fun ρ M6 => ∃ n : Int, ρ = [some (.fl (ns.map .int)), some (.ref p), some (.int c), some (.int l), some (.ref a), some (.int n), none, none, none, none, none] ∧ (∃ n, M6 p = some (.pool pr pc n) ∧ n ≤ 10) ∧ M6 a = some (.lst (rows.map rowD)) ∧ (c ≠ 3 → n = manyF c l)) (fun I mk => ?_) ?_
  · walk_at "mp"
    refine ⟨cmul_l ⟨by decide, by decide⟩, ⟨by decide, by decide, by omega⟩, cmul_l ⟨by decide, by decide⟩, cmul_r ⟨by omega, by omega⟩, ⟨by decide, by decide, by omega⟩, cmul_l ⟨by decide, by decide⟩, by omega, fun q hq => ?_⟩
    rw [ix_lst mupd_same]
    have g1 : ∃ n, (mupd M5 q (.lst [D.int (2 * l + 2), D.int ((l + 2) ^ Int.toNat 2 + 2 * l * (l + 2) + 3 * l ^ Int.toNat 2), D.int 0])) p = some (.pool pr pc n) ∧ n ≤ 10 := ⟨n5, by rw [mupd_ne (fun z => by rw [z, hq] at h5; cases h5)]; exact h5, hn5⟩
    have g2 : (mupd M5 q (.lst [D.int (2 * l + 2), D.int ((l + 2) ^ Int.toNat 2 + 2 * l * (l + 2) + 3 * l ^ Int.toNat 2), D.int 0])) a = some (.lst (rows.map rowD)) := by rw [mupd_ne (fun z => by rw [z, hq] at ha; cases ha)]; exact ha
    have hc3 : c = 1 ∨ c = 2 ∨ c = 3 := by omega
    rcases hc3 with rfl | rfl | rfl
    · exact ⟨_, rfl, mk _ _ ⟨_, rfl, g1, g2, fun _ => by rfl⟩⟩
    · exact ⟨_, rfl, mk _ _ ⟨_, rfl, g1, g2, fun _ => by rfl⟩⟩
    · exact ⟨_, rfl, mk _ _ ⟨_, rfl, g1, g2, fun z => absurd rfl z⟩⟩
  rintro _ M6 ⟨n, rfl, ⟨n6, h6, hn6⟩, ha6, hm⟩
  refine seq_cut (fun ρ M7 => ∃ x6, ρ = [some (.fl (ns.map .int)), some (.ref p), some (.int c), some (.int l), some (.ref a), some (.int (manyF c l)), x6, none, none, none, none] ∧ (∃ n, M7 p = some (.pool pr pc n) ∧ n ≤ 10) ∧ M7 a = some (.lst (rows.map rowD))) (fun I mk => ?_) ?_
  · walk_at "mp"
    refine ⟨fun hc => ?_, fun hc => ?_⟩
    · subst hc
      have e : manyF 3 l = (l + 2) * (l + 2) * (l + 2) + 3 * (l + 2) * (l + 2) * l + 9 * (l + 2) * l * l + 13 * l * l * l := rfl
      refine ⟨cmul_r ⟨by omega, by omega⟩, cmul_r ⟨by omega, by omega⟩, cmul_r ⟨by omega, by omega⟩, cmul_r ⟨by omega, by omega⟩, cmul_r ⟨by omega, by omega⟩, cmul_r ⟨by omega, by omega⟩, cmul_r ⟨by omega, by omega⟩, cmul_r ⟨by omega, by omega⟩, cmul_r ⟨by omega, by omega⟩, cmul_r ⟨by omega, by omega⟩, cmul_r ⟨by omega, by omega⟩, ?_⟩
      exact mk _ _ ⟨_, by rw [e], ⟨n6, h6, hn6⟩, ha6⟩
    · exact mk _ _ ⟨_, by rw [hm hc], ⟨n6, h6, hn6⟩, ha6⟩
  rintro _ M7 ⟨x6, rfl, ⟨n7, h7, hn7⟩, ha7⟩
  -- the list itself
  have rl : rows.length ≤ 100000 := by
    rw [erows]
    refine Nat.le_trans (List.length_filter_le ..) ?_
    have := rows_len c l hb.2.1 hb.2.2.2 c.toNat (by omega)
    have h32 : 32 ^ c.toNat ≤ 32 ^ 3 := Nat.pow_le_pow_right (by decide) (by omega)
    omega
  have rup : upB (rows.map rowD) = true := by
    rw [up_rows c.toNat rows (fun r hr => by have := (rok r hr).2; omega)]; exact f1
  refine seq_cut (fun ρ M8 => ρ = [some (.fl (ns.map .int)), some (.ref p), some (.int c), some (.int l), some (.ref a), some (.int (manyF c l)), x6, none, none, none, none] ∧ M8 = M7) (fun I mk => ?_) ?_
  · walk_at "mp"
    have ul := fun Q => up_at (Q := Q) ha7 (by rw [List.length_map]; omega) (fun x hx y hy => by
      obtain ⟨r, _, rfl⟩ := List.mem_map.mp hx
      obtain ⟨s, _, rfl⟩ := List.mem_map.mp hy
      exact okLt_row r s)
    simp only [tn_lst ha7, ul, len_lst ha7, rup, List.length_map]
    walk_at "mp"
    rw [decide_eq_true f2]
    exact ⟨fun z => (by cases z), fun _ => mk _ _ ⟨rfl, rfl⟩⟩
  rintro _ M7 ⟨rfl, rfl⟩
  -- every row is a region
  refine seq_cut (fun ρ M9 => ∃ x7, ρ = [some (.fl (ns.map .int)), some (.ref p), some (.int c), some (.int l), some (.ref a), some (.int (manyF c l)), x6, x7, none, none, none] ∧ M9 = M7) (fun I mk => ?_) ?_
  · walk_at "mp"
    rw [iseq_lst ha7]
    refine loop_enc rowD rows (fun pre ρ M9 => ∃ x7, ρ = [some (.fl (ns.map .int)), some (.ref p), some (.int c), some (.int l), some (.ref a), some (.int (manyF c l)), x6, x7, none, none, none] ∧ M9 = M7) ?_ ?_ _ _ ⟨none, rfl, rfl⟩
    · rintro J mkJ pre r post ρ M9 e ⟨x7, rfl, rfl⟩
      have hr : r ∈ rows := by rw [e]; simp
      have ho := rok r hr
      have h3 := f3 r hr
      unfold okRow at h3
      rw [Bool.and_eq_true, Bool.and_eq_true] at h3
      refine ⟨ha7, ?_⟩
      walk_at "mp"
      rw [lawreg_at ⟨ho.1, by omega, hb.2.1, hb.2.2.1, hb.2.2.2⟩]
      walk_at "mp"
      rw [h3.1.1]
      exact ⟨fun z => (by cases z), fun _ => mkJ _ _ _ ⟨_, rfl, rfl⟩⟩
    · rintro ρ M9 ⟨x7, rfl, rfl⟩
      exact ⟨ha7, mk _ _ ⟨_, rfl, rfl⟩⟩
  rintro _ M7 ⟨x7, rfl, rfl⟩
  -- four tries
  have rne : 0 < rows.length := by
    have : 0 < (rows.length : Int) := by
      rw [f2]; exact many_pos hcl
    omega
  have plr : D.pls (rows.map rowD) := nbs_pls _ (nbs_map rowD rowD_nb rows)
  have dpr : D.deps (rows.map rowD) ≤ 2 := deps_map rowD 2 rowD_dep rows
  refine seq_cut (fun ρ M9 => True) (fun I mk => ?_) ?_
  · walk_at "mp"
    refine ⟨by decide, by decide, ?_⟩
    refine loop_rng (lo := 0) (n := Int.toNat 4) (fun i ρ M9 => ∃ x7 x8 x9 x10, ρ = [some (.fl (ns.map .int)), some (.ref p), some (.int c), some (.int l), some (.ref a), some (.int (manyF c l)), x6, x7, x8, x9, x10] ∧ (∃ n, M9 p = some (.pool pr pc n) ∧ n ≤ 10 + 100 * i) ∧ M9 a = some (.lst (rows.map rowD))) ?step ?fin _ _ ⟨_, _, _, _, rfl, ⟨n7, h7, by omega⟩, ha7⟩
    case fin =>
      rintro ρ M9 ⟨x7, x8, x9, x10, rfl, _⟩
      exact mk _ _ trivial
    case step =>
      rintro J mkJ i ρ M9 hi ⟨x7, x8, x9, x10, rfl, ⟨n9, h9, hn9⟩, ha9⟩
      have hi4 : i < 4 := hi
      have nap : a ≠ p := fun z => by rw [z, h9] at ha9; cases ha9
      walk_at "mp"
      simp only [len_lst ha9, List.length_map]
      rw [draw_at h9]
      refine ⟨by omega, by omega, fun j hj0 hj1 => ?_⟩
      have ha10 : mupd M9 p (.pool pr pc (n9 + 1)) a = some (.lst (rows.map rowD)) := by rw [mupd_ne nap]; exact ha9
      have h10 : mupd M9 p (.pool pr pc (n9 + 1)) p = some (.pool pr pc (n9 + 1)) := mupd_same
      rw [ix_lst ha10]
      obtain ⟨x, ex, hx⟩ := atI_some (xs := rows.map rowD) hj0 (by rw [List.length_map]; exact hj1)
      refine ⟨x, ex, ?_⟩
      obtain ⟨r, hr, rfl⟩ := List.mem_map.mp hx
      have ho := rok r hr
      have h3 := f3 r hr
      unfold okRow at h3
      rw [Bool.and_eq_true, Bool.and_eq_true, decide_eq_true_eq] at h3
      generalize mupd M9 p (.pool pr pc (n9 + 1)) = M10 at ha10 h10
      walk_at "mp"
      rw [sample_at ho.1 hb.2.2.1 hb.2.2.2]
      have sl : (sampleF r l).length = r.length := by unfold sampleF; rw [List.length_map]
      rw [region_of_at ⟨by rw [sl]; exact ho.1.1, sample_ok ho.1 hb.2.2.1 hb.2.2.2, hb.2.2.1, by omega⟩, h3.1.2]
      rw [row_eqn]
      walk_at "mp"
      refine ⟨fun z => ?_, fun _ => ?_⟩
      · simp at z
      rw [later_at ho.1 hb.2.2.1 hb.2.2.2]
      refine ⟨cmul_l ⟨by decide, by decide⟩, by omega, by omega, by omega, by omega, by decide, ?_⟩
      rw [top_row, row_eqn]
      walk_at "mp"
      rw [laterD_non]
      have e3 := h3.2
      refine ⟨fun z => ?_, fun _ => ⟨by omega, by omega, ?_⟩⟩
      · rw [e3] at z; cases z
      refine lc_rel (fun d => ∃ x ∈ fracs, d = ipD x) (fun k M11 => (∃ n, M11 p = some (.pool pr pc n) ∧ n ≤ n9 + 1 + 2 * k) ∧ M11 a = some (.lst (rows.map rowD))) (rngD 0 c.toNat) (fun K mkK G mkG k y hk hy M11 ⟨⟨n11, h11, hn11⟩, ha11⟩ => ?_) (by rw [rngD_len]; omega) (fun M11 ys ⟨⟨n11, h11, hn11⟩, ha11⟩ hys hR => ?_) _ ⟨⟨_, h10, by omega⟩, ha10⟩
      · rw [rngD_len] at hk
        refine ⟨trivial, ?_⟩
        walk_at "mp"
        rw [frac_at h11]
        refine ⟨by omega, by omega, fun u v hu hv hv1 hv4 => mkG _ _ _ ⟨_, frac_mem hu hv hv1 hv4, rfl⟩ ⟨⟨_, mupd_same, by omega⟩, ?_⟩⟩
        rw [mupd_ne nap]; exact ha11
      refine ⟨trivial, fun q hq => ?_⟩
      rw [items_lst mupd_same]
      obtain ⟨vs, evs, hvs⟩ : ∃ vs : List PR, ys = vs.map ipD ∧ ∀ x ∈ vs, x ∈ fracs := ys_of ys hR
      subst evs
      rw [List.length_map, rngD_len] at hys
      have eq : D.tup (vs.map ipD) = rowD vs := rfl
      rw [eq, region_of_at ⟨by omega, fun x hx => fracs_ok x (hvs x hx), hb.2.2.1, by omega⟩]
      have ha12 : mupd M11 q (.lst (vs.map ipD)) a = some (.lst (rows.map rowD)) := by rw [mupd_ne (fun z => by rw [z, hq] at ha11; cases ha11)]; exact ha11
      have h12 : mupd M11 q (.lst (vs.map ipD)) p = some (.pool pr pc n11) := by rw [mupd_ne (fun z => by rw [z, hq] at h11; cases h11)]; exact h11
      rw [in_lst ha12]
      have vin := values_in hcl vs (by omega) hvs
      rw [← erows] at vin
      have ein : ((rows.map rowD).any fun x => eqD x (rowD (regionF vs l))) = true := by
        exact List.any_eq_true.mpr ⟨_, List.mem_map.mpr ⟨_, vin, rfl⟩, (eqD_iff _ _ (rowD_nb _) (rowD_nb _)).mpr rfl⟩
      refine ⟨plr, rowD_pl _, by omega, ?_⟩
      walk_at "mp"
      rw [ein]
      rw [rngD_len] at hn11
      exact ⟨fun z => (by cases z), fun _ => mkJ _ _ _ ⟨_, _, _, _, rfl, ⟨n11, h12, by omega⟩, ha12⟩⟩
  rintro ρ M9 -
  walk_at "mp"
  exact mkR _
end K05

set_option maxHeartbeats 0
namespace HD
open PySem PySem.Spec PyProof.Rows L2
def top (i : Nat) : Stmt := PySem.Challenge.pw_clockways_k05_all_regions_listed.main.body.getD i (.Pass ⟨0, 0, 0, 0⟩)

abbrev s_is_integer : Stmt := top 1
def d_is_integer : He.DefD := ⟨("is_integer", none), "is_integer", "is_integer", defArgs s_is_integer, defBody s_is_integer, defScope s_is_integer, [], []⟩
abbrev s_is_number : Stmt := top 2
def d_is_number : He.DefD := ⟨("is_number", none), "is_number", "is_number", defArgs s_is_number, defBody s_is_number, defScope s_is_number, [], []⟩
abbrev s_is_tuple : Stmt := top 3
def d_is_tuple : He.DefD := ⟨("is_tuple", none), "is_tuple", "is_tuple", defArgs s_is_tuple, defBody s_is_tuple, defScope s_is_tuple, [], []⟩
abbrev s_common_part : Stmt := top 5
def d_common_part : He.DefD := ⟨("common_part", none), "common_part", "common_part", defArgs s_common_part, defBody s_common_part, defScope s_common_part, [], []⟩
abbrev s_moment : Stmt := top 6
def d_moment : He.DefD := ⟨("moment", none), "moment", "moment", defArgs s_moment, defBody s_moment, defScope s_moment, [], []⟩
abbrev s_is_less : Stmt := top 7
def d_is_less : He.DefD := ⟨("is_less", none), "is_less", "is_less", defArgs s_is_less, defBody s_is_less, defScope s_is_less, [], []⟩
abbrev s_whole_part : Stmt := top 8
def d_whole_part : He.DefD := ⟨("whole_part", none), "whole_part", "whole_part", defArgs s_whole_part, defBody s_whole_part, defScope s_whole_part, [], []⟩
abbrev s_rest_part : Stmt := top 9
def d_rest_part : He.DefD := ⟨("rest_part", none), "rest_part", "rest_part", defArgs s_rest_part, defBody s_rest_part, defScope s_rest_part, [], []⟩
abbrev s_region_of : Stmt := top 11
def d_region_of : He.DefD := ⟨("region_of", none), "region_of", "region_of", defArgs s_region_of, defBody s_region_of, defScope s_region_of, [], []⟩
abbrev s_ordered : Stmt := top 12
def d_ordered : He.DefD := ⟨("ordered", none), "ordered", "ordered", defArgs s_ordered, defBody s_ordered, defScope s_ordered, [], []⟩
abbrev s_pair_of : Stmt := top 13
def d_pair_of : He.DefD := ⟨("pair_of", none), "pair_of", "pair_of", defArgs s_pair_of, defBody s_pair_of, defScope s_pair_of, [], []⟩
abbrev s_is_above : Stmt := top 14
def d_is_above : He.DefD := ⟨("is_above", none), "is_above", "is_above", defArgs s_is_above, defBody s_is_above, defScope s_is_above, [], []⟩
abbrev s_later : Stmt := top 15
def d_later : He.DefD := ⟨("later", none), "later", "later", defArgs s_later, defBody s_later, defScope s_later, [], []⟩
abbrev s_past_integers : Stmt := top 16
def d_past_integers : He.DefD := ⟨("past_integers", none), "past_integers", "past_integers", defArgs s_past_integers, defBody s_past_integers, defScope s_past_integers, [], []⟩
abbrev s_sample : Stmt := top 17
def d_sample : He.DefD := ⟨("sample", none), "sample", "sample", defArgs s_sample, defBody s_sample, defScope s_sample, [], []⟩
abbrev s_is_region : Stmt := top 18
def d_is_region : He.DefD := ⟨("is_region", none), "is_region", "is_region", defArgs s_is_region, defBody s_is_region, defScope s_is_region, [], []⟩
abbrev s_all_regions : Stmt := top 19
def d_all_regions : He.DefD := ⟨("all_regions", none), "all_regions", "all_regions", defArgs s_all_regions, defBody s_all_regions, defScope s_all_regions, [], []⟩
abbrev s__law_cell : Stmt := top 21
def d__law_cell : He.DefD := ⟨("_law_cell", none), "_law_cell", "_law_cell", defArgs s__law_cell, defBody s__law_cell, defScope s__law_cell, [], []⟩
abbrev s__law_numbers : Stmt := top 22
def d__law_numbers : He.DefD := ⟨("_law_numbers", none), "_law_numbers", "_law_numbers", defArgs s__law_numbers, defBody s__law_numbers, defScope s__law_numbers, [], []⟩
abbrev s__law_pool : Stmt := top 23
def d__law_pool : He.DefD := ⟨("_law_pool", none), "_law_pool", "_law_pool", defArgs s__law_pool, defBody s__law_pool, defScope s__law_pool, [], []⟩
abbrev s__law_draw : Stmt := top 24
def d__law_draw : He.DefD := ⟨("_law_draw", none), "_law_draw", "_law_draw", defArgs s__law_draw, defBody s__law_draw, defScope s__law_draw, [], []⟩
abbrev s__law_kind : Stmt := top 25
def d__law_kind : He.DefD := ⟨("_law_kind", none), "_law_kind", "_law_kind", defArgs s__law_kind, defBody s__law_kind, defScope s__law_kind, [], []⟩
abbrev s__law_int : Stmt := top 26
def d__law_int : He.DefD := ⟨("_law_int", none), "_law_int", "_law_int", defArgs s__law_int, defBody s__law_int, defScope s__law_int, [], []⟩
abbrev s__law_up : Stmt := top 27
def d__law_up : He.DefD := ⟨("_law_up", none), "_law_up", "_law_up", defArgs s__law_up, defBody s__law_up, defScope s__law_up, [], []⟩
abbrev s__law_gcd : Stmt := top 28
def d__law_gcd : He.DefD := ⟨("_law_gcd", none), "_law_gcd", "_law_gcd", defArgs s__law_gcd, defBody s__law_gcd, defScope s__law_gcd, [], []⟩
abbrev s__law_moment : Stmt := top 29
def d__law_moment : He.DefD := ⟨("_law_moment", none), "_law_moment", "_law_moment", defArgs s__law_moment, defBody s__law_moment, defScope s__law_moment, [], []⟩
abbrev s__law_fraction : Stmt := top 30
def d__law_fraction : He.DefD := ⟨("_law_fraction", none), "_law_fraction", "_law_fraction", defArgs s__law_fraction, defBody s__law_fraction, defScope s__law_fraction, [], []⟩
abbrev s__law_is_region : Stmt := top 31
def d__law_is_region : He.DefD := ⟨("_law_is_region", none), "_law_is_region", "_law_is_region", defArgs s__law_is_region, defBody s__law_is_region, defScope s__law_is_region, [], []⟩
abbrev s_law : Stmt := top 32
def d_law : He.DefD := ⟨("law", none), "law", "law", defArgs s_law, defBody s_law, defScope s_law, [], []⟩
def fn : List He.DefD := ([d_is_integer, d_is_number, d_is_tuple, d_common_part, d_moment, d_is_less, d_whole_part, d_rest_part, d_region_of, d_ordered, d_pair_of, d_is_above, d_later, d_past_integers, d_sample, d_is_region, d_all_regions, d__law_cell, d__law_numbers, d__law_pool] : List He.DefD) ++ ([d__law_draw, d__law_kind, d__law_int, d__law_up, d__law_gcd, d__law_moment, d__law_fraction, d__law_is_region, d_law] : List He.DefD)
def fa : List He.Fa := ([.glo "is_integer", .glo "is_number", .glo "is_tuple", .glo "common_part", .glo "moment", .glo "is_less", .glo "whole_part", .glo "rest_part", .glo "region_of", .glo "ordered", .glo "pair_of", .glo "is_above", .glo "later", .glo "past_integers", .glo "sample", .glo "is_region", .glo "all_regions", .glo "_law_cell", .glo "_law_numbers", .glo "_law_pool"] : List He.Fa) ++ ([.glo "_law_draw", .glo "_law_kind", .glo "_law_int", .glo "_law_up", .glo "_law_gcd", .glo "_law_moment", .glo "_law_fraction", .glo "_law_is_region", .glo "law", .free "abs", .free "all", .free "any", .free "bool", .free "int", .free "isinstance", .free "len", .free "list", .free "max", .free "min", .free "range"] : List He.Fa) ++ ([.free "sorted", .free "str", .free "tuple"] : List He.Fa)
def loose : List PySem.Str := (["is_integer", "is_number", "is_tuple", "common_part", "moment", "is_less", "whole_part", "rest_part", "region_of", "ordered", "pair_of", "is_above", "later", "past_integers", "sample", "is_region", "all_regions", "_law_cell", "_law_numbers", "_law_pool"] : List PySem.Str) ++ (["_law_draw", "_law_kind", "_law_int", "_law_up", "_law_gcd", "_law_moment", "_law_fraction", "_law_is_region"] : List PySem.Str)
abbrev R : PySem.W.OpenRow := PySem.W.OpenLaw.row PySem.Challenge.rw_clockways_k05_all_regions_listed
abbrev hk : PySem.W.Hook := He.hookD 4 fa fn
def ob (s : PySem.W.SharedT) : He.AlD := He.obsDG 4 fa fn (HandSHeadRun.getT s)
theorem ob_eq (s : PySem.W.SharedT) : ob s = hk.obs s.abs := He.obsDG_eq (HandSHeadRun.getT_eq s)
theorem run (w : World) : HandSHeadRun.RunEq R (PySem.W.view R.prog [32]) hk ob 4000 loose w := by
  intro os
  kernel_rfl
end HD

set_option maxHeartbeats 4000000
namespace K05
open PySem PySem.Spec PyProof.Rows L2 MP HD
/-! the walk, as gen.py printed it -/
structure Wd (K : PySem.W.Frag) (mg : Str → Option Value) : Prop where
  ex : ∃ h : Heap, K.In h ∧ h.Ns mainGlobals mg
  c : He.SaysD fa fn K
section
variable {P : Program} {w : World} {K : PySem.W.Frag} {mg : Str → Option Value} {base : Heap}
theorem g_abs (W : Wd K mg) : mg "abs" = none := let ⟨_, X, G⟩ := W.ex; He.free_ok X G (W.c.fact 29 (f := .free "abs") rfl)
theorem g_all (W : Wd K mg) : mg "all" = none := let ⟨_, X, G⟩ := W.ex; He.free_ok X G (W.c.fact 30 (f := .free "all") rfl)
theorem g_any (W : Wd K mg) : mg "any" = none := let ⟨_, X, G⟩ := W.ex; He.free_ok X G (W.c.fact 31 (f := .free "any") rfl)
theorem g_bool (W : Wd K mg) : mg "bool" = none := let ⟨_, X, G⟩ := W.ex; He.free_ok X G (W.c.fact 32 (f := .free "bool") rfl)
theorem g_int (W : Wd K mg) : mg "int" = none := let ⟨_, X, G⟩ := W.ex; He.free_ok X G (W.c.fact 33 (f := .free "int") rfl)
theorem g_isinstance (W : Wd K mg) : mg "isinstance" = none := let ⟨_, X, G⟩ := W.ex; He.free_ok X G (W.c.fact 34 (f := .free "isinstance") rfl)
theorem g_len (W : Wd K mg) : mg "len" = none := let ⟨_, X, G⟩ := W.ex; He.free_ok X G (W.c.fact 35 (f := .free "len") rfl)
theorem g_list (W : Wd K mg) : mg "list" = none := let ⟨_, X, G⟩ := W.ex; He.free_ok X G (W.c.fact 36 (f := .free "list") rfl)
theorem g_max (W : Wd K mg) : mg "max" = none := let ⟨_, X, G⟩ := W.ex; He.free_ok X G (W.c.fact 37 (f := .free "max") rfl)
theorem g_min (W : Wd K mg) : mg "min" = none := let ⟨_, X, G⟩ := W.ex; He.free_ok X G (W.c.fact 38 (f := .free "min") rfl)
theorem g_range (W : Wd K mg) : mg "range" = none := let ⟨_, X, G⟩ := W.ex; He.free_ok X G (W.c.fact 39 (f := .free "range") rfl)
theorem g_sorted (W : Wd K mg) : mg "sorted" = none := let ⟨_, X, G⟩ := W.ex; He.free_ok X G (W.c.fact 40 (f := .free "sorted") rfl)
theorem g_str (W : Wd K mg) : mg "str" = none := let ⟨_, X, G⟩ := W.ex; He.free_ok X G (W.c.fact 41 (f := .free "str") rfl)
theorem g_tuple (W : Wd K mg) : mg "tuple" = none := let ⟨_, X, G⟩ := W.ex; He.free_ok X G (W.c.fact 42 (f := .free "tuple") rfl)
theorem sc_is_integer : FnScope ["value"] ["value"] (defScope s_is_integer) := ⟨rfl, rfl, rfl, by decide +kernel, rfl, by decide +kernel, by decide +kernel⟩
theorem b_is_integer (W : Wd K mg) (f : Addr) (cdv : Value) (A : Around) (outer : List Env) (s : Shared) (H : Hp) (E : XK) (hr : Room 0 (A.deeper (envOfC "is_integer" (defScope s_is_integer) s.heap.objs.size f cdv))) :
    DSs (cxOf C8.CX0 P w K mg base ["value"] "is_integer" (defScope s_is_integer) f cdv A outer s H E) (defBody s_is_integer) w_is_integer :=
  have hu := hr.units
  have nd := sc_is_integer.nd
  (dss_one (ds_ret (de_and (de_callB f_isi rfl (g_isinstance W) bb_isinstance (da_cons (dv 0) (da_cons (de_ty rfl (g_int W) bt_int) da_nil))) (de_one (de_not (de_callB f_isi rfl (g_isinstance W) bb_isinstance (da_cons (dv 0) (da_cons (de_ty rfl (g_bool W) bt_bool) da_nil))))))))
theorem c_is_integer (W : Wd K mg) : Cal P w K mg base 1 "is_integer" r_is_integer := by
  obtain ⟨h, X, G⟩ := W.ex
  obtain ⟨fd, F⟩ := W.c.def_ 0 (d := d_is_integer) rfl
  exact cal_of F sc_is_integer (He.glo_ok X G (W.c.fact 0 (f := .glo "is_integer") rfl)) (FunD.bindsN (ps := ["value"]) F fun _ _ _ _ _ _ us hl => match us, hl with | [_], _ => rfl) law_is_integer fun cdv A outer s H E hr => b_is_integer W _ cdv A outer s H E hr
theorem sc_is_number : FnScope ["value", "low", "high"] ["value", "low", "high"] (defScope s_is_number) := ⟨rfl, rfl, rfl, by decide +kernel, rfl, by decide +kernel, by decide +kernel⟩
theorem b_is_number (W : Wd K mg) (f : Addr) (cdv : Value) (A : Around) (outer : List Env) (s : Shared) (H : Hp) (E : XK) (hr : Room 1 (A.deeper (envOfC "is_number" (defScope s_is_number) s.heap.objs.size f cdv))) :
    DSs (cxOf C8.CX0 P w K mg base ["value", "low", "high"] "is_number" (defScope s_is_number) f cdv A outer s H E) (defBody s_is_number) w_is_number :=
  have hu := hr.units
  have nd := sc_is_number.nd
  (dss_one (ds_ret (de_and (de_call (c_is_integer W) hr (by decide) rfl (da_cons (dv 0) da_nil)) (de_one (de_chain d_le d_le (dv 1) (dv 0) (dv 2))))))
theorem c_is_number (W : Wd K mg) : Cal P w K mg base 2 "is_number" r_is_number := by
  obtain ⟨h, X, G⟩ := W.ex
  obtain ⟨fd, F⟩ := W.c.def_ 1 (d := d_is_number) rfl
  exact cal_of F sc_is_number (He.glo_ok X G (W.c.fact 1 (f := .glo "is_number") rfl)) (FunD.bindsN (ps := ["value", "low", "high"]) F fun _ _ _ _ _ _ us hl => match us, hl with | [_, _, _], _ => rfl) law_is_number fun cdv A outer s H E hr => b_is_number W _ cdv A outer s H E hr
theorem sc_is_tuple : FnScope ["value", "size"] ["value", "size"] (defScope s_is_tuple) := ⟨rfl, rfl, rfl, by decide +kernel, rfl, by decide +kernel, by decide +kernel⟩
theorem b_is_tuple (W : Wd K mg) (f : Addr) (cdv : Value) (A : Around) (outer : List Env) (s : Shared) (H : Hp) (E : XK) (hr : Room 0 (A.deeper (envOfC "is_tuple" (defScope s_is_tuple) s.heap.objs.size f cdv))) :
    DSs (cxOf C8.CX0 P w K mg base ["value", "size"] "is_tuple" (defScope s_is_tuple) f cdv A outer s H E) (defBody s_is_tuple) w_is_tuple :=
  have hu := hr.units
  have nd := sc_is_tuple.nd
  (dss_one (ds_ret (de_and (de_callB f_isi rfl (g_isinstance W) bb_isinstance (da_cons (dv 0) (da_cons (de_ty rfl (g_tuple W) bt_tuple) da_nil))) (de_one (de_cmp (d_eq hu) (de_callB f_len rfl (g_len W) bb_len (da_cons (dv 0) da_nil)) (dv 1) (nomark _))))))
theorem c_is_tuple (W : Wd K mg) : Cal P w K mg base 1 "is_tuple" r_is_tuple := by
  obtain ⟨h, X, G⟩ := W.ex
  obtain ⟨fd, F⟩ := W.c.def_ 2 (d := d_is_tuple) rfl
  exact cal_of F sc_is_tuple (He.glo_ok X G (W.c.fact 2 (f := .glo "is_tuple") rfl)) (FunD.bindsN (ps := ["value", "size"]) F fun _ _ _ _ _ _ us hl => match us, hl with | [_, _], _ => rfl) law_is_tuple fun cdv A outer s H E hr => b_is_tuple W _ cdv A outer s H E hr
theorem sc_common_part : FnScope ["a", "b"] ["a", "b"] (defScope s_common_part) := ⟨rfl, rfl, rfl, by decide +kernel, rfl, by decide +kernel, by decide +kernel⟩
theorem b_common_part (W : Wd K mg) (f : Addr) (cdv : Value) (A : Around) (outer : List Env) (s : Shared) (H : Hp) (E : XK) (hr : Room 0 (A.deeper (envOfC "common_part" (defScope s_common_part) s.heap.objs.size f cdv))) :
    DSs (cxOf C8.CX0 P w K mg base ["a", "b"] "common_part" (defScope s_common_part) f cdv A outer s H E) (defBody s_common_part) w_common_part :=
  have hu := hr.units
  have nd := sc_common_part.nd
  (dss_cons (ds_while (passes_of rfl) (dt_cmp (d_ne hu) (dv 1) de_int (nomark _)) (dss_one (ds_par rfl nd (i := 0) (j := 1) rfl rfl (by decide) rfl rfl (da_cons (dv 1) (da_cons (de_op d_mod (dv 0) (dv 1)) da_nil)) (by with_unfolding_all rfl))))
    (dss_one (ds_ret (dv 0))))
theorem c_common_part (W : Wd K mg) : Cal P w K mg base 1 "common_part" r_common_part := by
  obtain ⟨h, X, G⟩ := W.ex
  obtain ⟨fd, F⟩ := W.c.def_ 3 (d := d_common_part) rfl
  exact cal_of F sc_common_part (He.glo_ok X G (W.c.fact 3 (f := .glo "common_part") rfl)) (FunD.bindsN (ps := ["a", "b"]) F fun _ _ _ _ _ _ us hl => match us, hl with | [_, _], _ => rfl) law_common_part fun cdv A outer s H E hr => b_common_part W _ cdv A outer s H E hr
theorem sc_moment : FnScope ["p", "q", "divisor"] ["p", "q"] (defScope s_moment) := ⟨rfl, rfl, rfl, by decide +kernel, rfl, by decide +kernel, by decide +kernel⟩
theorem b_moment (W : Wd K mg) (f : Addr) (cdv : Value) (A : Around) (outer : List Env) (s : Shared) (H : Hp) (E : XK) (hr : Room 1 (A.deeper (envOfC "moment" (defScope s_moment) s.heap.objs.size f cdv))) :
    DSs (cxOf C8.CX0 P w K mg base ["p", "q", "divisor"] "moment" (defScope s_moment) f cdv A outer s H E) (defBody s_moment) w_moment :=
  have hu := hr.units
  have nd := sc_moment.nd
  (dss_cons (ds_set nd (i := 2) rfl (by first | exact Or.inl rfl | exact Or.inr rfl) (de_call (c_common_part W) hr (by decide) rfl (da_cons (dv 0) (da_cons (dv 1) da_nil))) (hs := by with_unfolding_all rfl))
    (dss_one (ds_ret (de_tup (da_cons (de_op d_fdiv (dv 0) (dv 2)) (da_cons (de_op d_fdiv (dv 1) (dv 2)) da_nil))))))
theorem c_moment (W : Wd K mg) : Cal P w K mg base 2 "moment" r_moment := by
  obtain ⟨h, X, G⟩ := W.ex
  obtain ⟨fd, F⟩ := W.c.def_ 4 (d := d_moment) rfl
  exact cal_of F sc_moment (He.glo_ok X G (W.c.fact 4 (f := .glo "moment") rfl)) (FunD.bindsN (ps := ["p", "q"]) F fun _ _ _ _ _ _ us hl => match us, hl with | [_, _], _ => rfl) law_moment fun cdv A outer s H E hr => b_moment W _ cdv A outer s H E hr
theorem sc_is_less : FnScope ["a", "b"] ["a", "b"] (defScope s_is_less) := ⟨rfl, rfl, rfl, by decide +kernel, rfl, by decide +kernel, by decide +kernel⟩
theorem b_is_less (W : Wd K mg) (f : Addr) (cdv : Value) (A : Around) (outer : List Env) (s : Shared) (H : Hp) (E : XK) (hr : Room 0 (A.deeper (envOfC "is_less" (defScope s_is_less) s.heap.objs.size f cdv))) :
    DSs (cxOf C8.CX0 P w K mg base ["a", "b"] "is_less" (defScope s_is_less) f cdv A outer s H E) (defBody s_is_less) w_is_less :=
  have hu := hr.units
  have nd := sc_is_less.nd
  (dss_one (ds_ret (de_cmp (d_lt hu) (de_op d_mulA (de_ix (d_ix hu) (dv 0) de_int) (de_ix (d_ix hu) (dv 1) de_int)) (de_op d_mulA (de_ix (d_ix hu) (dv 1) de_int) (de_ix (d_ix hu) (dv 0) de_int)) (nomark _))))
theorem c_is_less (W : Wd K mg) : Cal P w K mg base 1 "is_less" r_is_less := by
  obtain ⟨h, X, G⟩ := W.ex
  obtain ⟨fd, F⟩ := W.c.def_ 5 (d := d_is_less) rfl
  exact cal_of F sc_is_less (He.glo_ok X G (W.c.fact 5 (f := .glo "is_less") rfl)) (FunD.bindsN (ps := ["a", "b"]) F fun _ _ _ _ _ _ us hl => match us, hl with | [_, _], _ => rfl) law_is_less fun cdv A outer s H E hr => b_is_less W _ cdv A outer s H E hr
theorem sc_whole_part : FnScope ["one"] ["one"] (defScope s_whole_part) := ⟨rfl, rfl, rfl, by decide +kernel, rfl, by decide +kernel, by decide +kernel⟩
theorem b_whole_part (W : Wd K mg) (f : Addr) (cdv : Value) (A : Around) (outer : List Env) (s : Shared) (H : Hp) (E : XK) (hr : Room 0 (A.deeper (envOfC "whole_part" (defScope s_whole_part) s.heap.objs.size f cdv))) :
    DSs (cxOf C8.CX0 P w K mg base ["one"] "whole_part" (defScope s_whole_part) f cdv A outer s H E) (defBody s_whole_part) w_whole_part :=
  have hu := hr.units
  have nd := sc_whole_part.nd
  (dss_one (ds_ret (de_op d_fdiv (de_ix (d_ix hu) (dv 0) de_int) (de_ix (d_ix hu) (dv 0) de_int))))
theorem c_whole_part (W : Wd K mg) : Cal P w K mg base 1 "whole_part" r_whole_part := by
  obtain ⟨h, X, G⟩ := W.ex
  obtain ⟨fd, F⟩ := W.c.def_ 6 (d := d_whole_part) rfl
  exact cal_of F sc_whole_part (He.glo_ok X G (W.c.fact 6 (f := .glo "whole_part") rfl)) (FunD.bindsN (ps := ["one"]) F fun _ _ _ _ _ _ us hl => match us, hl with | [_], _ => rfl) law_whole_part fun cdv A outer s H E hr => b_whole_part W _ cdv A outer s H E hr
theorem sc_rest_part : FnScope ["one"] ["one"] (defScope s_rest_part) := ⟨rfl, rfl, rfl, by decide +kernel, rfl, by decide +kernel, by decide +kernel⟩
theorem b_rest_part (W : Wd K mg) (f : Addr) (cdv : Value) (A : Around) (outer : List Env) (s : Shared) (H : Hp) (E : XK) (hr : Room 0 (A.deeper (envOfC "rest_part" (defScope s_rest_part) s.heap.objs.size f cdv))) :
    DSs (cxOf C8.CX0 P w K mg base ["one"] "rest_part" (defScope s_rest_part) f cdv A outer s H E) (defBody s_rest_part) w_rest_part :=
  have hu := hr.units
  have nd := sc_rest_part.nd
  (dss_one (ds_ret (de_tup (da_cons (de_op d_mod (de_ix (d_ix hu) (dv 0) de_int) (de_ix (d_ix hu) (dv 0) de_int)) (da_cons (de_ix (d_ix hu) (dv 0) de_int) da_nil)))))
theorem c_rest_part (W : Wd K mg) : Cal P w K mg base 1 "rest_part" r_rest_part := by
  obtain ⟨h, X, G⟩ := W.ex
  obtain ⟨fd, F⟩ := W.c.def_ 7 (d := d_rest_part) rfl
  exact cal_of F sc_rest_part (He.glo_ok X G (W.c.fact 7 (f := .glo "rest_part") rfl)) (FunD.bindsN (ps := ["one"]) F fun _ _ _ _ _ _ us hl => match us, hl with | [_], _ => rfl) law_rest_part fun cdv A outer s H E hr => b_rest_part W _ cdv A outer s H E hr
theorem sc_ordered : FnScope ["parts", "found", "part", "counts", "other", "_"] ["parts"] (defScope s_ordered) := ⟨rfl, rfl, rfl, by decide +kernel, rfl, by decide +kernel, by decide +kernel⟩
theorem b_ordered (W : Wd K mg) (f : Addr) (cdv : Value) (A : Around) (outer : List Env) (s : Shared) (H : Hp) (E : XK) (hr : Room 1 (A.deeper (envOfC "ordered" (defScope s_ordered) s.heap.objs.size f cdv))) :
    DSs (cxOf C8.CX0 P w K mg base ["parts", "found", "part", "counts", "other", "_"] "ordered" (defScope s_ordered) f cdv A outer s H E) (defBody s_ordered) w_ordered :=
  have hu := hr.units
  have nd := sc_ordered.nd
  (dss_cons (ds_set nd (i := 1) rfl (by first | exact Or.inl rfl | exact Or.inr rfl) (de_lst da_nil) (hs := by with_unfolding_all rfl))
    (dss_cons (ds_for (passes_of rfl) rfl (di_seq (dv 0)) (dgn 2 nd) (dss_one (ds_if (dt_cmp (d_notIn hu) (dv 2) (dv 1) rfl) (dss_one (ds_expr (de_bm dm_append (dv 1) (da_cons (dv 2) da_nil)))) dss_nil)))
    (dss_cons (ds_setLc (i := 3) (own := [("part", 2)]) rfl nd rfl rfl (sw_true rfl rfl rfl (by kernel_rfl)) (di_seq (dv 1)) (blkOk_by (by kernel_rfl)) (fun _ _ _ _ _ => (dgn 2 nd)) (fun _ _ _ _ _ => dts_nil) (fun _ _ _ _ _ => (de_tup (da_cons (de_callB f_len rfl (g_len W) bb_len (da_cons (de_lc (own := [("other", 4)]) rfl nd (di_seq (dv 1)) (blkOk_by (by kernel_rfl)) (fun _ _ _ _ _ => (dgn 4 nd)) (fun _ _ _ _ _ => (dts_one (dt_val (de_call (c_is_less W) hr (by decide) rfl (da_cons (dv 4) (da_cons (dv 2) da_nil)))))) (fun _ _ _ _ _ => (dv 4))) da_nil)) (da_cons (dv 2) da_nil)))))
    (dss_one (ds_ret (de_lc (own := [("_", 5), ("part", 2)]) rfl nd (di_seq (de_callB (f_sorted hu) rfl (g_sorted W) bb_sorted (da_cons (dv 3) da_nil))) (blkOk_by (by kernel_rfl)) (fun _ _ _ _ _ => (dg_tup rfl (dgs_cons (dgn 5 nd) (dgs_cons (dgn 2 nd) dgs_nil)))) (fun _ _ _ _ _ => dts_nil) (fun _ _ _ _ _ => (dv 2))))))))
theorem c_ordered (W : Wd K mg) : Cal P w K mg base 2 "ordered" r_ordered := by
  obtain ⟨h, X, G⟩ := W.ex
  obtain ⟨fd, F⟩ := W.c.def_ 9 (d := d_ordered) rfl
  exact cal_of F sc_ordered (He.glo_ok X G (W.c.fact 9 (f := .glo "ordered") rfl)) (FunD.bindsN (ps := ["parts"]) F fun _ _ _ _ _ _ us hl => match us, hl with | [_], _ => rfl) law_ordered fun cdv A outer s H E hr => b_ordered W _ cdv A outer s H E hr
theorem sc_pair_of : FnScope ["value", "limit", "steps", "whole", "part"] ["value", "limit", "steps"] (defScope s_pair_of) := ⟨rfl, rfl, rfl, by decide +kernel, rfl, by decide +kernel, by decide +kernel⟩
theorem b_pair_of (W : Wd K mg) (f : Addr) (cdv : Value) (A : Around) (outer : List Env) (s : Shared) (H : Hp) (E : XK) (hr : Room 1 (A.deeper (envOfC "pair_of" (defScope s_pair_of) s.heap.objs.size f cdv))) :
    DSs (cxOf C8.CX0 P w K mg base ["value", "limit", "steps", "whole", "part"] "pair_of" (defScope s_pair_of) f cdv A outer s H E) (defBody s_pair_of) w_pair_of :=
  have hu := hr.units
  have nd := sc_pair_of.nd
  (dss_cons (ds_par rfl nd (i := 3) (j := 4) rfl rfl (by decide) rfl rfl (da_cons (de_call (c_whole_part W) hr (by decide) rfl (da_cons (dv 0) da_nil)) (da_cons (de_call (c_rest_part W) hr (by decide) rfl (da_cons (dv 0) da_nil)) da_nil)) (by with_unfolding_all rfl))
    (dss_cons (ds_if (DW.dt (dw_or (dt_cmp d_gt (dv 3) (dv 1) (nomark _)) (dw_or1 (DW.dt (dw_and (dt_cmp (d_eq hu) (dv 3) (dv 1) (nomark _)) (dw_and1 (dt_cmp d_gt (de_ix (d_ix hu) (dv 4) de_int) de_int (nomark _)))))))) (dss_one (ds_ret (de_tup (da_cons (de_op d_add (de_op d_mulA de_int (dv 1)) de_int) (da_cons de_int da_nil))))) dss_nil)
    (dss_cons (ds_if (dt_cmp (d_eq hu) (de_ix (d_ix hu) (dv 4) de_int) de_int (nomark _)) (dss_one (ds_ret (de_tup (da_cons (de_op d_mulA de_int (dv 3)) (da_cons de_int da_nil))))) dss_nil)
    (dss_one (ds_ret (de_tup (da_cons (de_op d_add (de_op d_mulA de_int (dv 3)) de_int) (da_cons (de_op d_add de_int (de_bm (dm_index hu) (dv 2) (da_cons (dv 4) da_nil))) da_nil))))))))
theorem c_pair_of (W : Wd K mg) : Cal P w K mg base 2 "pair_of" r_pair_of := by
  obtain ⟨h, X, G⟩ := W.ex
  obtain ⟨fd, F⟩ := W.c.def_ 10 (d := d_pair_of) rfl
  exact cal_of F sc_pair_of (He.glo_ok X G (W.c.fact 10 (f := .glo "pair_of") rfl)) (FunD.bindsN (ps := ["value", "limit", "steps"]) F fun _ _ _ _ _ _ us hl => match us, hl with | [_, _, _], _ => rfl) law_pair_of fun cdv A outer s H E hr => b_pair_of W _ cdv A outer s H E hr
theorem sc_region_of : FnScope ["values", "limit", "parts", "value", "steps"] ["values", "limit"] (defScope s_region_of) := ⟨rfl, rfl, rfl, by decide +kernel, rfl, by decide +kernel, by decide +kernel⟩
theorem b_region_of (W : Wd K mg) (f : Addr) (cdv : Value) (A : Around) (outer : List Env) (s : Shared) (H : Hp) (E : XK) (hr : Room 2 (A.deeper (envOfC "region_of" (defScope s_region_of) s.heap.objs.size f cdv))) :
    DSs (cxOf C8.CX0 P w K mg base ["values", "limit", "parts", "value", "steps"] "region_of" (defScope s_region_of) f cdv A outer s H E) (defBody s_region_of) w_region_of :=
  have hu := hr.units
  have nd := sc_region_of.nd
  (dss_cons (ds_set nd (i := 2) rfl (by first | exact Or.inl rfl | exact Or.inr rfl) (de_lst da_nil) (hs := by with_unfolding_all rfl))
    (dss_cons (ds_for (passes_of rfl) rfl (di_seq (dv 0)) (dgn 3 nd) (dss_one (ds_if (DW.dt (dw_and (dt_cmp (d_lt hu) (de_call (c_whole_part W) hr (by decide) rfl (da_cons (dv 3) da_nil)) (dv 1) (nomark _)) (dw_and1 (dt_cmp d_gt (de_ix (d_ix hu) (de_call (c_rest_part W) hr (by decide) rfl (da_cons (dv 3) da_nil)) de_int) de_int (nomark _))))) (dss_one (ds_expr (de_bm dm_append (dv 2) (da_cons (de_call (c_rest_part W) hr (by decide) rfl (da_cons (dv 3) da_nil)) da_nil)))) dss_nil)))
    (dss_cons (ds_set nd (i := 4) rfl (by first | exact Or.inl rfl | exact Or.inr rfl) (de_call (c_ordered W) hr (by decide) rfl (da_cons (dv 2) da_nil)) (hs := by with_unfolding_all rfl))
    (dss_one (ds_ret (de_callTy f_tuple rfl (g_tuple W) bt_tuple (da_cons (de_lc (own := [("value", 3)]) rfl nd (di_seq (dv 0)) (blkOk_by (by kernel_rfl)) (fun _ _ _ _ _ => (dgn 3 nd)) (fun _ _ _ _ _ => dts_nil) (fun _ _ _ _ _ => (de_call (c_pair_of W) hr (by decide) rfl (da_cons (dv 3) (da_cons (dv 1) (da_cons (dv 4) da_nil)))))) da_nil)))))))
theorem c_region_of (W : Wd K mg) : Cal P w K mg base 3 "region_of" r_region_of := by
  obtain ⟨h, X, G⟩ := W.ex
  obtain ⟨fd, F⟩ := W.c.def_ 8 (d := d_region_of) rfl
  exact cal_of F sc_region_of (He.glo_ok X G (W.c.fact 8 (f := .glo "region_of") rfl)) (FunD.bindsN (ps := ["values", "limit"]) F fun _ _ _ _ _ _ us hl => match us, hl with | [_, _], _ => rfl) law_region_of fun cdv A outer s H E hr => b_region_of W _ cdv A outer s H E hr
theorem sc_is_above : FnScope ["pair", "limit"] ["pair", "limit"] (defScope s_is_above) := ⟨rfl, rfl, rfl, by decide +kernel, rfl, by decide +kernel, by decide +kernel⟩
theorem b_is_above (W : Wd K mg) (f : Addr) (cdv : Value) (A : Around) (outer : List Env) (s : Shared) (H : Hp) (E : XK) (hr : Room 0 (A.deeper (envOfC "is_above" (defScope s_is_above) s.heap.objs.size f cdv))) :
    DSs (cxOf C8.CX0 P w K mg base ["pair", "limit"] "is_above" (defScope s_is_above) f cdv A outer s H E) (defBody s_is_above) w_is_above :=
  have hu := hr.units
  have nd := sc_is_above.nd
  (dss_one (ds_ret (de_cmp (d_eq hu) (de_ix (d_ix hu) (dv 0) de_int) (de_op d_add (de_op d_mulA de_int (dv 1)) de_int) (nomark _))))
theorem c_is_above (W : Wd K mg) : Cal P w K mg base 1 "is_above" r_is_above := by
  obtain ⟨h, X, G⟩ := W.ex
  obtain ⟨fd, F⟩ := W.c.def_ 11 (d := d_is_above) rfl
  exact cal_of F sc_is_above (He.glo_ok X G (W.c.fact 11 (f := .glo "is_above") rfl)) (FunD.bindsN (ps := ["pair", "limit"]) F fun _ _ _ _ _ _ us hl => match us, hl with | [_, _], _ => rfl) law_is_above fun cdv A outer s H E hr => b_is_above W _ cdv A outer s H E hr
theorem sc_past_integers : FnScope ["region", "limit", "shift", "found", "half", "rank", "_"] ["region", "limit"] (defScope s_past_integers) := ⟨rfl, rfl, rfl, by decide +kernel, rfl, by decide +kernel, by decide +kernel⟩
theorem b_past_integers (W : Wd K mg) (f : Addr) (cdv : Value) (A : Around) (outer : List Env) (s : Shared) (H : Hp) (E : XK) (hr : Room 0 (A.deeper (envOfC "past_integers" (defScope s_past_integers) s.heap.objs.size f cdv))) :
    DSs (cxOf C8.CX0 P w K mg base ["region", "limit", "shift", "found", "half", "rank", "_"] "past_integers" (defScope s_past_integers) f cdv A outer s H E) (defBody s_past_integers) w_past_integers :=
  have hu := hr.units
  have nd := sc_past_integers.nd
  (dss_cons (ds_set nd (i := 2) rfl (by first | exact Or.inl rfl | exact Or.inr rfl) (de_callTy f_int rfl (g_int W) bt_int (da_cons (de_callB (f_any rfl) rfl (g_any W) bb_any (da_cons (de_lc (own := [("half", 4), ("_", 6)]) rfl nd (di_seq (dv 0)) (blkOk_by (by kernel_rfl)) (fun _ _ _ _ _ => (dg_tup rfl (dgs_cons (dgn 4 nd) (dgs_cons (dgn 6 nd) dgs_nil)))) (fun _ _ _ _ _ => dts_nil) (fun _ _ _ _ _ => (de_and (de_cmp (d_eq hu) (de_op d_mod (dv 4) de_int) de_int (nomark _)) (de_one (de_cmp (d_lt hu) (dv 4) (de_op d_mulA de_int (dv 1)) (nomark _)))))) da_nil)) da_nil)) (hs := by with_unfolding_all rfl))
    (dss_cons (ds_set nd (i := 3) rfl (by first | exact Or.inl rfl | exact Or.inr rfl) (de_lst da_nil) (hs := by with_unfolding_all rfl))
    (dss_cons (ds_for (passes_of rfl) rfl (di_seq (dv 0)) (dg_tup rfl (dgs_cons (dgn 4 nd) (dgs_cons (dgn 5 nd) dgs_nil))) (dss_one (ds_if (dt_cmp (d_eq hu) (de_op d_mod (dv 4) de_int) de_int (nomark _)) (dss_one (ds_expr (de_bm dm_append (dv 3) (da_cons (de_tup (da_cons (de_op d_add (dv 4) de_int) (da_cons (de_if (dt_cmp (d_lt hu) (dv 4) (de_op d_mulA de_int (dv 1)) (nomark _)) de_int de_int) da_nil))) da_nil)))) (dss_one (ds_expr (de_bm dm_append (dv 3) (da_cons (de_tup (da_cons (dv 4) (da_cons (de_if (dt_cmp d_gt (dv 5) de_int (nomark _)) (de_op d_add (dv 5) (dv 2)) de_int) da_nil))) da_nil)))))))
    (dss_one (ds_ret (de_callTy f_tuple rfl (g_tuple W) bt_tuple (da_cons (dv 3) da_nil)))))))
theorem c_past_integers (W : Wd K mg) : Cal P w K mg base 1 "past_integers" r_past_integers := by
  obtain ⟨h, X, G⟩ := W.ex
  obtain ⟨fd, F⟩ := W.c.def_ 13 (d := d_past_integers) rfl
  exact cal_of F sc_past_integers (He.glo_ok X G (W.c.fact 13 (f := .glo "past_integers") rfl)) (FunD.bindsN (ps := ["region", "limit"]) F fun _ _ _ _ _ _ us hl => match us, hl with | [_, _], _ => rfl) law_past_integers fun cdv A outer s H E hr => b_past_integers W _ cdv A outer s H E hr
theorem sc_later : FnScope ["region", "limit", "last", "half", "_", "rank"] ["region", "limit"] (defScope s_later) := ⟨rfl, rfl, rfl, by decide +kernel, rfl, by decide +kernel, by decide +kernel⟩
theorem b_later (W : Wd K mg) (f : Addr) (cdv : Value) (A : Around) (outer : List Env) (s : Shared) (H : Hp) (E : XK) (hr : Room 1 (A.deeper (envOfC "later" (defScope s_later) s.heap.objs.size f cdv))) :
    DSs (cxOf C8.CX0 P w K mg base ["region", "limit", "last", "half", "_", "rank"] "later" (defScope s_later) f cdv A outer s H E) (defBody s_later) w_later :=
  have hu := hr.units
  have nd := sc_later.nd
  (dss_cons (ds_if (dt_val (de_callB (f_any rfl) rfl (g_any W) bb_any (da_cons (de_lc (own := [("half", 3), ("_", 4)]) rfl nd (di_seq (dv 0)) (blkOk_by (by kernel_rfl)) (fun _ _ _ _ _ => (dg_tup rfl (dgs_cons (dgn 3 nd) (dgs_cons (dgn 4 nd) dgs_nil)))) (fun _ _ _ _ _ => dts_nil) (fun _ _ _ _ _ => (de_cmp (d_eq hu) (de_op d_mod (dv 3) de_int) de_int (nomark _)))) da_nil))) (dss_one (ds_ret (de_call (c_past_integers W) hr (by decide) rfl (da_cons (dv 0) (da_cons (dv 1) da_nil))))) dss_nil)
    (dss_cons (ds_set nd (i := 2) rfl (by first | exact Or.inl rfl | exact Or.inr rfl) (de_callBK (f_maxD rfl hu) rfl (g_max W) bb_max (da_cons (de_lc (own := [("_", 4), ("rank", 5)]) rfl nd (di_seq (dv 0)) (blkOk_by (by kernel_rfl)) (fun _ _ _ _ _ => (dg_tup rfl (dgs_cons (dgn 4 nd) (dgs_cons (dgn 5 nd) dgs_nil)))) (fun _ _ _ _ _ => dts_nil) (fun _ _ _ _ _ => (dv 5))) da_nil) (dk_cons de_int dk_nil)) (hs := by with_unfolding_all rfl))
    (dss_cons (ds_if (dt_cmp (d_eq hu) (dv 2) de_int (nomark _)) (dss_one (ds_ret de_non)) dss_nil)
    (dss_one (ds_ret (de_callTy f_tuple rfl (g_tuple W) bt_tuple (da_cons (de_lc (own := [("half", 3), ("rank", 5)]) rfl nd (di_seq (dv 0)) (blkOk_by (by kernel_rfl)) (fun _ _ _ _ _ => (dg_tup rfl (dgs_cons (dgn 3 nd) (dgs_cons (dgn 5 nd) dgs_nil)))) (fun _ _ _ _ _ => dts_nil) (fun _ _ _ _ _ => (de_if (dt_cmp (d_eq hu) (dv 5) (dv 2) (nomark _)) (de_tup (da_cons (de_op d_add (dv 3) de_int) (da_cons de_int da_nil))) (de_tup (da_cons (dv 3) (da_cons (dv 5) da_nil)))))) da_nil)))))))
theorem c_later (W : Wd K mg) : Cal P w K mg base 2 "later" r_later := by
  obtain ⟨h, X, G⟩ := W.ex
  obtain ⟨fd, F⟩ := W.c.def_ 12 (d := d_later) rfl
  exact cal_of F sc_later (He.glo_ok X G (W.c.fact 12 (f := .glo "later") rfl)) (FunD.bindsN (ps := ["region", "limit"]) F fun _ _ _ _ _ _ us hl => match us, hl with | [_, _], _ => rfl) law_later fun cdv A outer s H E hr => b_later W _ cdv A outer s H E hr
theorem sc_sample : FnScope ["region", "limit", "steps", "found", "half", "rank", "_"] ["region", "limit"] (defScope s_sample) := ⟨rfl, rfl, rfl, by decide +kernel, rfl, by decide +kernel, by decide +kernel⟩
theorem b_sample (W : Wd K mg) (f : Addr) (cdv : Value) (A : Around) (outer : List Env) (s : Shared) (H : Hp) (E : XK) (hr : Room 2 (A.deeper (envOfC "sample" (defScope s_sample) s.heap.objs.size f cdv))) :
    DSs (cxOf C8.CX0 P w K mg base ["region", "limit", "steps", "found", "half", "rank", "_"] "sample" (defScope s_sample) f cdv A outer s H E) (defBody s_sample) w_sample :=
  have hu := hr.units
  have nd := sc_sample.nd
  (dss_cons (ds_set nd (i := 2) rfl (by first | exact Or.inl rfl | exact Or.inr rfl) (de_op d_add de_int (de_callBK (f_maxD rfl hu) rfl (g_max W) bb_max (da_cons (de_lc (own := [("_", 6), ("rank", 5)]) rfl nd (di_seq (dv 0)) (blkOk_by (by kernel_rfl)) (fun _ _ _ _ _ => (dg_tup rfl (dgs_cons (dgn 6 nd) (dgs_cons (dgn 5 nd) dgs_nil)))) (fun _ _ _ _ _ => dts_nil) (fun _ _ _ _ _ => (dv 5))) da_nil) (dk_cons de_int dk_nil))) (hs := by with_unfolding_all rfl))
    (dss_cons (ds_set nd (i := 3) rfl (by first | exact Or.inl rfl | exact Or.inr rfl) (de_lst da_nil) (hs := by with_unfolding_all rfl))
    (dss_cons (ds_for (passes_of rfl) rfl (di_seq (dv 0)) (dg_tup rfl (dgs_cons (dgn 4 nd) (dgs_cons (dgn 5 nd) dgs_nil))) (dss_one (ds_if (dt_val (de_call (c_is_above W) hr (by decide) rfl (da_cons (de_tup (da_cons (dv 4) (da_cons (dv 5) da_nil))) (da_cons (dv 1) da_nil)))) (dss_one (ds_expr (de_bm dm_append (dv 3) (da_cons (de_tup (da_cons (de_op d_add (dv 1) de_int) (da_cons de_int da_nil))) da_nil)))) (dss_one (ds_expr (de_bm dm_append (dv 3) (da_cons (de_call (c_moment W) hr (by decide) rfl (da_cons (de_op d_add (de_op d_mulA (de_op d_fdiv (dv 4) de_int) (dv 2)) (dv 5)) (da_cons (dv 2) da_nil))) da_nil)))))))
    (dss_one (ds_ret (de_callTy f_tuple rfl (g_tuple W) bt_tuple (da_cons (dv 3) da_nil)))))))
theorem c_sample (W : Wd K mg) : Cal P w K mg base 3 "sample" r_sample := by
  obtain ⟨h, X, G⟩ := W.ex
  obtain ⟨fd, F⟩ := W.c.def_ 14 (d := d_sample) rfl
  exact cal_of F sc_sample (He.glo_ok X G (W.c.fact 14 (f := .glo "sample") rfl)) (FunD.bindsN (ps := ["region", "limit"]) F fun _ _ _ _ _ _ us hl => match us, hl with | [_, _], _ => rfl) law_sample fun cdv A outer s H E hr => b_sample W _ cdv A outer s H E hr
theorem sc_is_region : FnScope ["clocks", "limit", "value", "ranks", "half", "rank", "pair", "_"] ["clocks", "limit", "value"] (defScope s_is_region) := ⟨rfl, rfl, rfl, by decide +kernel, rfl, by decide +kernel, by decide +kernel⟩
theorem b_is_region (W : Wd K mg) (f : Addr) (cdv : Value) (A : Around) (outer : List Env) (s : Shared) (H : Hp) (E : XK) (hr : Room 2 (A.deeper (envOfC "is_region" (defScope s_is_region) s.heap.objs.size f cdv))) :
    DSs (cxOf C8.CX0 P w K mg base ["clocks", "limit", "value", "ranks", "half", "rank", "pair", "_"] "is_region" (defScope s_is_region) f cdv A outer s H E) (defBody s_is_region) w_is_region :=
  have hu := hr.units
  have nd := sc_is_region.nd
  (dss_cons (ds_if (DW.dt (dw_or (dt_not (dt_val (de_call (c_is_tuple W) hr (by decide) rfl (da_cons (dv 2) (da_cons (dv 0) da_nil))))) (dw_or1 (dt_not (dt_val (de_callB (f_all rfl) rfl (g_all W) bb_all (da_cons (de_lc (own := [("pair", 6)]) rfl nd (di_seq (dv 2)) (blkOk_by (by kernel_rfl)) (fun _ _ _ _ _ => (dgn 6 nd)) (fun _ _ _ _ _ => dts_nil) (fun _ _ _ _ _ => (de_call (c_is_tuple W) hr (by decide) rfl (da_cons (dv 6) (da_cons de_int da_nil))))) da_nil))))))) (dss_one (ds_ret de_bl)) dss_nil)
    (dss_cons (ds_if (dt_not (dt_val (de_callB (f_all rfl) rfl (g_all W) bb_all (da_cons (de_lc (own := [("half", 4), ("rank", 5)]) rfl nd (di_seq (dv 2)) (blkOk_by (by kernel_rfl)) (fun _ _ _ _ _ => (dg_tup rfl (dgs_cons (dgn 4 nd) (dgs_cons (dgn 5 nd) dgs_nil)))) (fun _ _ _ _ _ => dts_nil) (fun _ _ _ _ _ => (de_and (de_call (c_is_number W) hr (by decide) rfl (da_cons (dv 4) (da_cons de_int (da_cons (de_op d_add (de_op d_mulA de_int (dv 1)) de_int) da_nil)))) (de_one (de_call (c_is_number W) hr (by decide) rfl (da_cons (dv 5) (da_cons de_int (da_cons (dv 0) da_nil)))))))) da_nil)))) (dss_one (ds_ret de_bl)) dss_nil)
    (dss_cons (ds_setDc (i := 3) (own := [("_", 7), ("rank", 5)]) rfl nd rfl rfl (swd_true rfl rfl rfl (by kernel_rfl)) (di_seq (dv 2)) (blkOk_by (by kernel_rfl)) (fun _ _ _ _ _ => (dg_tup rfl (dgs_cons (dgn 7 nd) (dgs_cons (dgn 5 nd) dgs_nil)))) (fun _ _ _ _ _ => dts_nil) (fun _ _ _ _ _ => (dv 5)) (fun _ _ _ _ _ => de_bl))
    (dss_cons (ds_for (passes_of rfl) rfl (di_seq (dv 2)) (dg_tup rfl (dgs_cons (dgn 4 nd) (dgs_cons (dgn 5 nd) dgs_nil))) (dss_one (ds_if (DW.dt (dw_or (dt_cmp (d_ne hu) (de_cmp d_gt (dv 5) de_int (nomark _)) (de_and (de_cmp (d_eq hu) (de_op d_mod (dv 4) de_int) de_int (nomark _)) (de_one (de_cmp (d_lt hu) (dv 4) (de_op d_add (de_op d_mulA de_int (dv 1)) de_int) (nomark _)))) (nomark _)) (dw_or1 (DW.dt (dw_and (dt_cmp d_gt (dv 5) de_int (nomark _)) (dw_and1 (dt_cmp (d_notIn hu) (de_op d_sub (dv 5) de_int) (dv 3) rfl))))))) (dss_one (ds_ret de_bl)) dss_nil)))
    (dss_one (ds_ret de_bl))))))
theorem c_is_region (W : Wd K mg) : Cal P w K mg base 3 "is_region" r_is_region := by
  obtain ⟨h, X, G⟩ := W.ex
  obtain ⟨fd, F⟩ := W.c.def_ 15 (d := d_is_region) rfl
  exact cal_of F sc_is_region (He.glo_ok X G (W.c.fact 15 (f := .glo "is_region") rfl)) (FunD.bindsN (ps := ["clocks", "limit", "value"]) F fun _ _ _ _ _ _ us hl => match us, hl with | [_, _, _], _ => rfl) law_is_region fun cdv A outer s H E hr => b_is_region W _ cdv A outer s H E hr
theorem sc_all_regions : FnScope ["clocks", "limit", "rows", "pairs", "_", "half", "rank", "row", "pair"] ["clocks", "limit"] (defScope s_all_regions) := ⟨rfl, rfl, rfl, by decide +kernel, rfl, by decide +kernel, by decide +kernel⟩
theorem b_all_regions (W : Wd K mg) (f : Addr) (cdv : Value) (A : Around) (outer : List Env) (s : Shared) (H : Hp) (E : XK) (hr : Room 3 (A.deeper (envOfC "all_regions" (defScope s_all_regions) s.heap.objs.size f cdv))) :
    DSs (cxOf C8.CX0 P w K mg base ["clocks", "limit", "rows", "pairs", "_", "half", "rank", "row", "pair"] "all_regions" (defScope s_all_regions) f cdv A outer s H E) (defBody s_all_regions) w_all_regions :=
  have hu := hr.units
  have nd := sc_all_regions.nd
  (dss_cons (ds_set nd (i := 2) rfl (by first | exact Or.inl rfl | exact Or.inr rfl) (de_lst (da_cons (de_tup da_nil) da_nil)) (hs := by with_unfolding_all rfl))
    (dss_cons (ds_set nd (i := 3) rfl (by first | exact Or.inl rfl | exact Or.inr rfl) (de_lc2 (own := [("half", 5), ("rank", 6)]) (vs1 := [6]) rfl nd (di_range1 rfl (g_range W) (da_cons (de_op d_add (de_op d_mulA de_int (dv 1)) de_int) da_nil)) (blkOk_by (by kernel_rfl)) (by decide) (fun _ _ _ _ _ => (dgn 5 nd)) (fun _ _ _ _ _ => dts_nil) (fun _ _ _ _ _ => (di_range1 rfl (g_range W) (da_cons (de_op d_add (dv 0) de_int) da_nil))) (fun _ _ _ _ _ => (dgn 6 nd)) (fun _ _ _ _ _ => dts_nil) (fun _ _ _ _ _ => (de_tup (da_cons (dv 5) (da_cons (dv 6) da_nil))))) (hs := by with_unfolding_all rfl))
    (dss_cons (ds_for (passes_of rfl) rfl (di_range1 rfl (g_range W) (da_cons (dv 0) da_nil)) (dgn 4 nd) (dss_one (ds_setLc2 (i := 2) (own := [("row", 7), ("pair", 8)]) (vs1 := [8]) rfl nd rfl rfl (sw_true rfl rfl rfl (by kernel_rfl)) (di_seq (dv 2)) (blkOk_by (by kernel_rfl)) (by decide) (fun _ _ _ _ _ => (dgn 7 nd)) (fun _ _ _ _ _ => dts_nil) (fun _ _ _ _ _ => (di_seq (dv 3))) (fun _ _ _ _ _ => (dgn 8 nd)) (fun _ _ _ _ _ => dts_nil) (fun _ _ _ _ _ => (de_op d_add (dv 7) (de_tup (da_cons (dv 8) da_nil)))))))
    (dss_one (ds_ret (de_lc (own := [("row", 7)]) rfl nd (di_seq (dv 2)) (blkOk_by (by kernel_rfl)) (fun _ _ _ _ _ => (dgn 7 nd)) (fun _ _ _ _ _ => (dts_one (dt_val (de_call (c_is_region W) hr (by decide) rfl (da_cons (dv 0) (da_cons (dv 1) (da_cons (dv 7) da_nil))))))) (fun _ _ _ _ _ => (dv 7))))))))
theorem c_all_regions (W : Wd K mg) : Cal P w K mg base 4 "all_regions" r_all_regions := by
  obtain ⟨h, X, G⟩ := W.ex
  obtain ⟨fd, F⟩ := W.c.def_ 16 (d := d_all_regions) rfl
  exact cal_of F sc_all_regions (He.glo_ok X G (W.c.fact 16 (f := .glo "all_regions") rfl)) (FunD.bindsN (ps := ["clocks", "limit"]) F fun _ _ _ _ _ _ us hl => match us, hl with | [_, _], _ => rfl) law_all_regions fun cdv A outer s H E hr => b_all_regions W _ cdv A outer s H E hr
theorem sc__law_cell : FnScope ["script", "k"] ["script", "k"] (defScope s__law_cell) := ⟨rfl, rfl, rfl, by decide +kernel, rfl, by decide +kernel, by decide +kernel⟩
theorem b__law_cell (W : Wd K mg) (f : Addr) (cdv : Value) (A : Around) (outer : List Env) (s : Shared) (H : Hp) (E : XK) (hr : Room 0 (A.deeper (envOfC "_law_cell" (defScope s__law_cell) s.heap.objs.size f cdv))) :
    DSs (cxOf C8.CX0 P w K mg base ["script", "k"] "_law_cell" (defScope s__law_cell) f cdv A outer s H E) (defBody s__law_cell) w__law_cell :=
  have hu := hr.units
  have nd := sc__law_cell.nd
  (dss_cons (ds_if (dt_cmp (d_lt hu) (dv 1) (de_callB f_len rfl (g_len W) bb_len (da_cons (dv 0) da_nil)) (nomark _)) (dss_one (ds_ret (de_ix (d_ix hu) (dv 0) (dv 1)))) dss_nil)
    (dss_one (ds_ret de_int)))
theorem c__law_cell (W : Wd K mg) : Cal P w K mg base 1 "_law_cell" r__law_cell := by
  obtain ⟨h, X, G⟩ := W.ex
  obtain ⟨fd, F⟩ := W.c.def_ 17 (d := d__law_cell) rfl
  exact cal_of F sc__law_cell (He.glo_ok X G (W.c.fact 17 (f := .glo "_law_cell") rfl)) (FunD.bindsN (ps := ["script", "k"]) F fun _ _ _ _ _ _ us hl => match us, hl with | [_, _], _ => rfl) law__law_cell fun cdv A outer s H E hr => b__law_cell W _ cdv A outer s H E hr
theorem sc__law_numbers : FnScope ["cell", "many", "rows", "left", "k", "mixed"] ["cell", "many"] (defScope s__law_numbers) := ⟨rfl, rfl, rfl, by decide +kernel, rfl, by decide +kernel, by decide +kernel⟩
theorem b__law_numbers (W : Wd K mg) (f : Addr) (cdv : Value) (A : Around) (outer : List Env) (s : Shared) (H : Hp) (E : XK) (hr : Room 0 (A.deeper (envOfC "_law_numbers" (defScope s__law_numbers) s.heap.objs.size f cdv))) :
    DSs (cxOf C8.CX0 P w K mg base ["cell", "many", "rows", "left", "k", "mixed"] "_law_numbers" (defScope s__law_numbers) f cdv A outer s H E) (defBody s__law_numbers) w__law_numbers :=
  have hu := hr.units
  have nd := sc__law_numbers.nd
  (dss_cons (ds_set nd (i := 2) rfl (by first | exact Or.inl rfl | exact Or.inr rfl) (de_lst da_nil) (hs := by with_unfolding_all rfl))
    (dss_cons (ds_set nd (i := 3) rfl (by first | exact Or.inl rfl | exact Or.inr rfl) (dv 0) (hs := by with_unfolding_all rfl))
    (dss_cons (ds_for (passes_of rfl) rfl (di_range1 rfl (g_range W) (da_cons (dv 1) da_nil)) (dgn 4 nd) (dss_one (ds_if (DW.dt (dw_and (dt_cmp d_ge (dv 0) (de_op d_pow de_int de_int) (nomark _)) (dw_and1 (dt_cmp d_gt (dv 3) de_int (nomark _))))) (dss_cons (ds_expr (de_bm dm_append (dv 2) (da_cons (de_op d_mod (de_callTy f_int rfl (g_int W) bt_int (da_cons (dv 3) da_nil)) de_int) da_nil)))
    (dss_one (ds_set nd (i := 3) rfl (by first | exact Or.inl rfl | exact Or.inr rfl) (de_op d_fdiv (dv 3) de_int) (hs := by with_unfolding_all rfl)))) (dss_cons (ds_set nd (i := 5) rfl (by first | exact Or.inl rfl | exact Or.inr rfl) (de_op d_mod (de_callTy f_int rfl (g_int W) bt_int (da_cons (de_op d_add (de_op d_mulA (dv 0) de_int) (de_op d_mulA (de_op d_add (dv 4) de_int) de_int)) da_nil)) de_int) (hs := by with_unfolding_all rfl))
    (dss_cons (ds_set nd (i := 5) rfl (by first | exact Or.inl rfl | exact Or.inr rfl) (de_op d_mod (de_callTy f_int rfl (g_int W) bt_int (da_cons (de_op d_add (de_op d_add (de_op d_mulA (dv 5) (dv 5)) (de_op d_mulA (dv 5) de_int)) (de_op d_mulA (dv 4) de_int)) da_nil)) de_int) (hs := by with_unfolding_all rfl))
    (dss_cons (ds_set nd (i := 5) rfl (by first | exact Or.inl rfl | exact Or.inr rfl) (de_op d_mod (de_callTy f_int rfl (g_int W) bt_int (da_cons (de_op d_add (de_op d_add (de_op d_mulA (dv 5) (dv 5)) (dv 0)) (de_op d_mulA de_int (dv 4))) da_nil)) de_int) (hs := by with_unfolding_all rfl))
    (dss_one (ds_expr (de_bm dm_append (dv 2) (da_cons (de_op d_mod (de_op d_fdiv (dv 5) de_int) de_int) da_nil))))))))))
    (dss_one (ds_ret (dv 2))))))
theorem c__law_numbers (W : Wd K mg) : Cal P w K mg base 1 "_law_numbers" r__law_numbers := by
  obtain ⟨h, X, G⟩ := W.ex
  obtain ⟨fd, F⟩ := W.c.def_ 18 (d := d__law_numbers) rfl
  exact cal_of F sc__law_numbers (He.glo_ok X G (W.c.fact 18 (f := .glo "_law_numbers") rfl)) (FunD.bindsN (ps := ["cell", "many"]) F fun _ _ _ _ _ _ us hl => match us, hl with | [_, _], _ => rfl) law__law_numbers fun cdv A outer s H E hr => b__law_numbers W _ cdv A outer s H E hr
theorem sc__law_pool : FnScope ["script", "rows", "k"] ["script"] (defScope s__law_pool) := ⟨rfl, rfl, rfl, by decide +kernel, rfl, by decide +kernel, by decide +kernel⟩
theorem b__law_pool (W : Wd K mg) (f : Addr) (cdv : Value) (A : Around) (outer : List Env) (s : Shared) (H : Hp) (E : XK) (hr : Room 1 (A.deeper (envOfC "_law_pool" (defScope s__law_pool) s.heap.objs.size f cdv))) :
    DSs (cxOf C8.CX0 P w K mg base ["script", "rows", "k"] "_law_pool" (defScope s__law_pool) f cdv A outer s H E) (defBody s__law_pool) w__law_pool :=
  have hu := hr.units
  have nd := sc__law_pool.nd
  (dss_cons (ds_set nd (i := 1) rfl (by first | exact Or.inl rfl | exact Or.inr rfl) (de_lst da_nil) (hs := by with_unfolding_all rfl))
    (dss_cons (ds_for (passes_of rfl) rfl (di_range1 rfl (g_range W) (da_cons (de_callB (f_min2 rfl) rfl (g_min W) bb_min (da_cons de_int (da_cons (de_callB (f_max2 rfl) rfl (g_max W) bb_max (da_cons de_int (da_cons (de_callB f_len rfl (g_len W) bb_len (da_cons (dv 0) da_nil)) da_nil))) da_nil))) da_nil)) (dgn 2 nd) (dss_one (ds_set nd (i := 1) rfl (by first | exact Or.inl rfl | exact Or.inr rfl) (de_op d_add (dv 1) (de_call (c__law_numbers W) hr (by decide) rfl (da_cons (de_op d_add (de_call (c__law_cell W) hr (by decide) rfl (da_cons (dv 0) (da_cons (dv 2) da_nil))) (de_op d_mulA de_int (dv 2))) (da_cons de_int da_nil)))) (hs := by with_unfolding_all rfl))))
    (dss_one (ds_ret (de_lst (da_cons (dv 1) (da_cons (de_lst (da_cons de_int da_nil)) da_nil)))))))
theorem c__law_pool (W : Wd K mg) : Cal P w K mg base 2 "_law_pool" r__law_pool := by
  obtain ⟨h, X, G⟩ := W.ex
  obtain ⟨fd, F⟩ := W.c.def_ 19 (d := d__law_pool) rfl
  exact cal_of F sc__law_pool (He.glo_ok X G (W.c.fact 19 (f := .glo "_law_pool") rfl)) (FunD.bindsN (ps := ["script"]) F fun _ _ _ _ _ _ us hl => match us, hl with | [_], _ => rfl) law__law_pool fun cdv A outer s H E hr => b__law_pool W _ cdv A outer s H E hr
theorem sc__law_draw : FnScope ["pool", "many", "at", "turn"] ["pool", "many"] (defScope s__law_draw) := ⟨rfl, rfl, rfl, by decide +kernel, rfl, by decide +kernel, by decide +kernel⟩
theorem b__law_draw (W : Wd K mg) (f : Addr) (cdv : Value) (A : Around) (outer : List Env) (s : Shared) (H : Hp) (E : XK) (hr : Room 0 (A.deeper (envOfC "_law_draw" (defScope s__law_draw) s.heap.objs.size f cdv))) :
    DSs (cxOf C8.CX0 P w K mg base ["pool", "many", "at", "turn"] "_law_draw" (defScope s__law_draw) f cdv A outer s H E) (defBody s__law_draw) w__law_draw :=
  have hu := hr.units
  have nd := sc__law_draw.nd
  (dss_cons (ds_set nd (i := 2) rfl (by first | exact Or.inl rfl | exact Or.inr rfl) (de_ix (d_ix hu) (de_ix (d_ix hu) (dv 0) de_int) de_int) (hs := by with_unfolding_all rfl))
    (dss_cons (ds_asg (de_op d_add (dv 2) de_int) (dg_sub hu (de_ix (d_ix hu) (dv 0) de_int) de_int))
    (dss_cons (ds_set nd (i := 3) rfl (by first | exact Or.inl rfl | exact Or.inr rfl) (de_op d_fdiv (dv 2) (de_callB f_len rfl (g_len W) bb_len (da_cons (de_ix (d_ix hu) (dv 0) de_int) da_nil))) (hs := by with_unfolding_all rfl))
    (dss_one (ds_ret (de_op d_mod (de_callTy f_int rfl (g_int W) bt_int (da_cons (de_op d_add (de_op d_add (de_ix (d_ix hu) (de_ix (d_ix hu) (dv 0) de_int) (de_op d_mod (dv 2) (de_callB f_len rfl (g_len W) bb_len (da_cons (de_ix (d_ix hu) (dv 0) de_int) da_nil)))) (de_op d_mulA (dv 3) de_int)) (de_op d_mulA (de_op d_mulA (dv 3) (dv 2)) de_int)) da_nil)) (dv 1)))))))
theorem c__law_draw (W : Wd K mg) : Cal P w K mg base 1 "_law_draw" r__law_draw := by
  obtain ⟨h, X, G⟩ := W.ex
  obtain ⟨fd, F⟩ := W.c.def_ 20 (d := d__law_draw) rfl
  exact cal_of F sc__law_draw (He.glo_ok X G (W.c.fact 20 (f := .glo "_law_draw") rfl)) (FunD.bindsN (ps := ["pool", "many"]) F fun _ _ _ _ _ _ us hl => match us, hl with | [_, _], _ => rfl) law__law_draw fun cdv A outer s H E hr => b__law_draw W _ cdv A outer s H E hr
theorem sc__law_kind : FnScope ["x"] ["x"] (defScope s__law_kind) := ⟨rfl, rfl, rfl, by decide +kernel, rfl, by decide +kernel, by decide +kernel⟩
theorem b__law_kind (W : Wd K mg) (f : Addr) (cdv : Value) (A : Around) (outer : List Env) (s : Shared) (H : Hp) (E : XK) (hr : Room 0 (A.deeper (envOfC "_law_kind" (defScope s__law_kind) s.heap.objs.size f cdv))) :
    DSs (cxOf C8.CX0 P w K mg base ["x"] "_law_kind" (defScope s__law_kind) f cdv A outer s H E) (defBody s__law_kind) w__law_kind :=
  have hu := hr.units
  have nd := sc__law_kind.nd
  (dss_cons (ds_if (dt_val (de_callB f_isi rfl (g_isinstance W) bb_isinstance (da_cons (dv 0) (da_cons (de_ty rfl (g_bool W) bt_bool) da_nil)))) (dss_one (ds_ret de_int)) dss_nil)
    (dss_cons (ds_if (dt_val (de_callB f_isi rfl (g_isinstance W) bb_isinstance (da_cons (dv 0) (da_cons (de_ty rfl (g_int W) bt_int) da_nil)))) (dss_one (ds_ret de_int)) dss_nil)
    (dss_cons (ds_if (dt_val (de_callB f_isi rfl (g_isinstance W) bb_isinstance (da_cons (dv 0) (da_cons (de_ty rfl (g_str W) bt_str) da_nil)))) (dss_one (ds_ret de_int)) dss_nil)
    (dss_cons (ds_if (dt_val (de_callB f_isi rfl (g_isinstance W) bb_isinstance (da_cons (dv 0) (da_cons (de_ty rfl (g_tuple W) bt_tuple) da_nil)))) (dss_one (ds_ret de_int)) dss_nil)
    (dss_cons (ds_if (dt_val (de_callB f_isi rfl (g_isinstance W) bb_isinstance (da_cons (dv 0) (da_cons (de_ty rfl (g_list W) bt_list) da_nil)))) (dss_one (ds_ret de_int)) dss_nil)
    (dss_cons (ds_if (dt_cmp d_is (dv 0) de_non (nomark _)) (dss_one (ds_ret de_int)) dss_nil)
    (dss_one (ds_ret de_int))))))))
theorem c__law_kind (W : Wd K mg) : Cal P w K mg base 1 "_law_kind" r__law_kind := by
  obtain ⟨h, X, G⟩ := W.ex
  obtain ⟨fd, F⟩ := W.c.def_ 21 (d := d__law_kind) rfl
  exact cal_of F sc__law_kind (He.glo_ok X G (W.c.fact 21 (f := .glo "_law_kind") rfl)) (FunD.bindsN (ps := ["x"]) F fun _ _ _ _ _ _ us hl => match us, hl with | [_], _ => rfl) law__law_kind fun cdv A outer s H E hr => b__law_kind W _ cdv A outer s H E hr
theorem sc__law_int : FnScope ["x", "low", "high"] ["x", "low", "high"] (defScope s__law_int) := ⟨rfl, rfl, rfl, by decide +kernel, rfl, by decide +kernel, by decide +kernel⟩
theorem b__law_int (W : Wd K mg) (f : Addr) (cdv : Value) (A : Around) (outer : List Env) (s : Shared) (H : Hp) (E : XK) (hr : Room 1 (A.deeper (envOfC "_law_int" (defScope s__law_int) s.heap.objs.size f cdv))) :
    DSs (cxOf C8.CX0 P w K mg base ["x", "low", "high"] "_law_int" (defScope s__law_int) f cdv A outer s H E) (defBody s__law_int) w__law_int :=
  have hu := hr.units
  have nd := sc__law_int.nd
  (dss_one (ds_ret (de_and (de_cmp (d_eq hu) (de_call (c__law_kind W) hr (by decide) rfl (da_cons (dv 0) da_nil)) de_int (nomark _)) (de_one (de_chain d_le d_le (dv 1) (dv 0) (dv 2))))))
theorem c__law_int (W : Wd K mg) : Cal P w K mg base 2 "_law_int" r__law_int := by
  obtain ⟨h, X, G⟩ := W.ex
  obtain ⟨fd, F⟩ := W.c.def_ 22 (d := d__law_int) rfl
  exact cal_of F sc__law_int (He.glo_ok X G (W.c.fact 22 (f := .glo "_law_int") rfl)) (FunD.bindsN (ps := ["x", "low", "high"]) F fun _ _ _ _ _ _ us hl => match us, hl with | [_, _, _], _ => rfl) law__law_int fun cdv A outer s H E hr => b__law_int W _ cdv A outer s H E hr
theorem sc__law_up : FnScope ["x", "k"] ["x"] (defScope s__law_up) := ⟨rfl, rfl, rfl, by decide +kernel, rfl, by decide +kernel, by decide +kernel⟩
theorem b__law_up (W : Wd K mg) (f : Addr) (cdv : Value) (A : Around) (outer : List Env) (s : Shared) (H : Hp) (E : XK) (hr : Room 0 (A.deeper (envOfC "_law_up" (defScope s__law_up) s.heap.objs.size f cdv))) :
    DSs (cxOf C8.CX0 P w K mg base ["x", "k"] "_law_up" (defScope s__law_up) f cdv A outer s H E) (defBody s__law_up) w__law_up :=
  have hu := hr.units
  have nd := sc__law_up.nd
  (dss_cons (ds_for (passes_of rfl) rfl (di_range2 rfl (g_range W) (da_cons de_int (da_cons (de_callB f_len rfl (g_len W) bb_len (da_cons (dv 0) da_nil)) da_nil))) (dgn 1 nd) (dss_one (ds_if (dt_not (dt_cmp (d_lt hu) (de_ix (d_ix hu) (dv 0) (de_op d_sub (dv 1) de_int)) (de_ix (d_ix hu) (dv 0) (dv 1)) (nomark _))) (dss_one (ds_ret de_bl)) dss_nil)))
    (dss_one (ds_ret de_bl)))
theorem c__law_up (W : Wd K mg) : Cal P w K mg base 1 "_law_up" r__law_up := by
  obtain ⟨h, X, G⟩ := W.ex
  obtain ⟨fd, F⟩ := W.c.def_ 23 (d := d__law_up) rfl
  exact cal_of F sc__law_up (He.glo_ok X G (W.c.fact 23 (f := .glo "_law_up") rfl)) (FunD.bindsN (ps := ["x"]) F fun _ _ _ _ _ _ us hl => match us, hl with | [_], _ => rfl) law__law_up fun cdv A outer s H E hr => b__law_up W _ cdv A outer s H E hr
theorem sc__law_gcd : FnScope ["a", "b", "k", "rest"] ["a", "b"] (defScope s__law_gcd) := ⟨rfl, rfl, rfl, by decide +kernel, rfl, by decide +kernel, by decide +kernel⟩
theorem b__law_gcd (W : Wd K mg) (f : Addr) (cdv : Value) (A : Around) (outer : List Env) (s : Shared) (H : Hp) (E : XK) (hr : Room 0 (A.deeper (envOfC "_law_gcd" (defScope s__law_gcd) s.heap.objs.size f cdv))) :
    DSs (cxOf C8.CX0 P w K mg base ["a", "b", "k", "rest"] "_law_gcd" (defScope s__law_gcd) f cdv A outer s H E) (defBody s__law_gcd) w__law_gcd :=
  have hu := hr.units
  have nd := sc__law_gcd.nd
  (dss_cons (ds_set nd (i := 0) rfl (by first | exact Or.inl rfl | exact Or.inr rfl) (de_callB f_abs rfl (g_abs W) bb_abs (da_cons (dv 0) da_nil)) (hs := by with_unfolding_all rfl))
    (dss_cons (ds_for (passes_of rfl) rfl (di_range1 rfl (g_range W) (da_cons de_int da_nil)) (dgn 2 nd) (dss_cons (ds_if (dt_cmp (d_eq hu) (dv 1) de_int (nomark _)) (dss_one (ds_ret (dv 0))) dss_nil)
    (dss_cons (ds_set nd (i := 3) rfl (by first | exact Or.inl rfl | exact Or.inr rfl) (de_op d_mod (de_callTy f_int rfl (g_int W) bt_int (da_cons (dv 0) da_nil)) (dv 1)) (hs := by with_unfolding_all rfl))
    (dss_cons (ds_set nd (i := 0) rfl (by first | exact Or.inl rfl | exact Or.inr rfl) (dv 1) (hs := by with_unfolding_all rfl))
    (dss_one (ds_set nd (i := 1) rfl (by first | exact Or.inl rfl | exact Or.inr rfl) (dv 3) (hs := by with_unfolding_all rfl)))))))
    (dss_one (ds_ret (dv 0)))))
theorem c__law_gcd (W : Wd K mg) : Cal P w K mg base 1 "_law_gcd" r__law_gcd := by
  obtain ⟨h, X, G⟩ := W.ex
  obtain ⟨fd, F⟩ := W.c.def_ 24 (d := d__law_gcd) rfl
  exact cal_of F sc__law_gcd (He.glo_ok X G (W.c.fact 24 (f := .glo "_law_gcd") rfl)) (FunD.bindsN (ps := ["a", "b"]) F fun _ _ _ _ _ _ us hl => match us, hl with | [_, _], _ => rfl) law__law_gcd fun cdv A outer s H E hr => b__law_gcd W _ cdv A outer s H E hr
theorem sc__law_moment : FnScope ["p", "q", "part"] ["p", "q"] (defScope s__law_moment) := ⟨rfl, rfl, rfl, by decide +kernel, rfl, by decide +kernel, by decide +kernel⟩
theorem b__law_moment (W : Wd K mg) (f : Addr) (cdv : Value) (A : Around) (outer : List Env) (s : Shared) (H : Hp) (E : XK) (hr : Room 1 (A.deeper (envOfC "_law_moment" (defScope s__law_moment) s.heap.objs.size f cdv))) :
    DSs (cxOf C8.CX0 P w K mg base ["p", "q", "part"] "_law_moment" (defScope s__law_moment) f cdv A outer s H E) (defBody s__law_moment) w__law_moment :=
  have hu := hr.units
  have nd := sc__law_moment.nd
  (dss_cons (ds_set nd (i := 2) rfl (by first | exact Or.inl rfl | exact Or.inr rfl) (de_callB (f_max2 rfl) rfl (g_max W) bb_max (da_cons de_int (da_cons (de_call (c__law_gcd W) hr (by decide) rfl (da_cons (dv 0) (da_cons (dv 1) da_nil))) da_nil))) (hs := by with_unfolding_all rfl))
    (dss_one (ds_ret (de_tup (da_cons (de_op d_fdiv (dv 0) (dv 2)) (da_cons (de_op d_fdiv (dv 1) (dv 2)) da_nil))))))
theorem c__law_moment (W : Wd K mg) : Cal P w K mg base 2 "_law_moment" r__law_moment := by
  obtain ⟨h, X, G⟩ := W.ex
  obtain ⟨fd, F⟩ := W.c.def_ 25 (d := d__law_moment) rfl
  exact cal_of F sc__law_moment (He.glo_ok X G (W.c.fact 25 (f := .glo "_law_moment") rfl)) (FunD.bindsN (ps := ["p", "q"]) F fun _ _ _ _ _ _ us hl => match us, hl with | [_, _], _ => rfl) law__law_moment fun cdv A outer s H E hr => b__law_moment W _ cdv A outer s H E hr
theorem sc__law_fraction : FnScope ["pool", "most", "q"] ["pool", "most"] (defScope s__law_fraction) := ⟨rfl, rfl, rfl, by decide +kernel, rfl, by decide +kernel, by decide +kernel⟩
theorem b__law_fraction (W : Wd K mg) (f : Addr) (cdv : Value) (A : Around) (outer : List Env) (s : Shared) (H : Hp) (E : XK) (hr : Room 2 (A.deeper (envOfC "_law_fraction" (defScope s__law_fraction) s.heap.objs.size f cdv))) :
    DSs (cxOf C8.CX0 P w K mg base ["pool", "most", "q"] "_law_fraction" (defScope s__law_fraction) f cdv A outer s H E) (defBody s__law_fraction) w__law_fraction :=
  have hu := hr.units
  have nd := sc__law_fraction.nd
  (dss_cons (ds_set nd (i := 2) rfl (by first | exact Or.inl rfl | exact Or.inr rfl) (de_op d_add de_int (de_call (c__law_draw W) hr (by decide) rfl (da_cons (dv 0) (da_cons de_int da_nil)))) (hs := by with_unfolding_all rfl))
    (dss_one (ds_ret (de_call (c__law_moment W) hr (by decide) rfl (da_cons (de_call (c__law_draw W) hr (by decide) rfl (da_cons (dv 0) (da_cons (de_op d_add (de_op d_mulA (dv 1) (dv 2)) de_int) da_nil))) (da_cons (dv 2) da_nil))))))
theorem c__law_fraction (W : Wd K mg) : Cal P w K mg base 3 "_law_fraction" r__law_fraction := by
  obtain ⟨h, X, G⟩ := W.ex
  obtain ⟨fd, F⟩ := W.c.def_ 26 (d := d__law_fraction) rfl
  exact cal_of F sc__law_fraction (He.glo_ok X G (W.c.fact 26 (f := .glo "_law_fraction") rfl)) (FunD.bindsN (ps := ["pool", "most"]) F fun _ _ _ _ _ _ us hl => match us, hl with | [_, _], _ => rfl) law__law_fraction fun cdv A outer s H E hr => b__law_fraction W _ cdv A outer s H E hr
theorem sc__law_is_region : FnScope ["clocks", "limit", "x", "ranks", "pair", "rank"] ["clocks", "limit", "x"] (defScope s__law_is_region) := ⟨rfl, rfl, rfl, by decide +kernel, rfl, by decide +kernel, by decide +kernel⟩
theorem b__law_is_region (W : Wd K mg) (f : Addr) (cdv : Value) (A : Around) (outer : List Env) (s : Shared) (H : Hp) (E : XK) (hr : Room 2 (A.deeper (envOfC "_law_is_region" (defScope s__law_is_region) s.heap.objs.size f cdv))) :
    DSs (cxOf C8.CX0 P w K mg base ["clocks", "limit", "x", "ranks", "pair", "rank"] "_law_is_region" (defScope s__law_is_region) f cdv A outer s H E) (defBody s__law_is_region) w__law_is_region :=
  have hu := hr.units
  have nd := sc__law_is_region.nd
  (dss_cons (ds_if (DW.dt (dw_or (dt_not (dt_val (de_callB f_isi rfl (g_isinstance W) bb_isinstance (da_cons (dv 2) (da_cons (de_ty rfl (g_tuple W) bt_tuple) da_nil))))) (dw_or1 (dt_cmp (d_ne hu) (de_callB f_len rfl (g_len W) bb_len (da_cons (dv 2) da_nil)) (dv 0) (nomark _))))) (dss_one (ds_ret de_bl)) dss_nil)
    (dss_cons (ds_set nd (i := 3) rfl (by first | exact Or.inl rfl | exact Or.inr rfl) (de_lst (da_cons de_int da_nil)) (hs := by with_unfolding_all rfl))
    (dss_cons (ds_for (passes_of rfl) rfl (di_seq (dv 2)) (dgn 4 nd) (dss_cons (ds_if (DW.dt (dw_or (dt_not (dt_val (de_callB f_isi rfl (g_isinstance W) bb_isinstance (da_cons (dv 4) (da_cons (de_ty rfl (g_tuple W) bt_tuple) da_nil))))) (dw_or (dt_cmp (d_ne hu) (de_callB f_len rfl (g_len W) bb_len (da_cons (dv 4) da_nil)) de_int (nomark _)) (dw_or (dt_not (dt_val (de_call (c__law_int W) hr (by decide) rfl (da_cons (de_ix (d_ix hu) (dv 4) de_int) (da_cons de_int (da_cons (de_op d_add (de_op d_mulA de_int (dv 1)) de_int) da_nil)))))) (dw_or1 (dt_not (dt_val (de_call (c__law_int W) hr (by decide) rfl (da_cons (de_ix (d_ix hu) (dv 4) de_int) (da_cons de_int (da_cons (dv 0) da_nil))))))))))) (dss_one (ds_ret de_bl)) dss_nil)
    (dss_cons (ds_if (dt_cmp (d_ne hu) (de_cmp d_gt (de_ix (d_ix hu) (dv 4) de_int) de_int (nomark _)) (de_and (de_cmp (d_eq hu) (de_op d_mod (de_callTy f_int rfl (g_int W) bt_int (da_cons (de_ix (d_ix hu) (dv 4) de_int) da_nil)) de_int) de_int (nomark _)) (de_one (de_cmp d_le (de_ix (d_ix hu) (dv 4) de_int) (de_op d_mulA de_int (dv 1)) (nomark _)))) (nomark _)) (dss_one (ds_ret de_bl)) dss_nil)
    (dss_one (ds_expr (de_bm dm_append (dv 3) (da_cons (de_ix (d_ix hu) (dv 4) de_int) da_nil)))))))
    (dss_one (ds_ret (de_cmp (d_eq hu) (de_callB f_len rfl (g_len W) bb_len (da_cons (de_lc (own := [("rank", 5)]) rfl nd (di_range1 rfl (g_range W) (da_cons (de_op d_add (de_callB (f_max rfl hu) rfl (g_max W) bb_max (da_cons (dv 3) da_nil)) de_int) da_nil)) (blkOk_by (by kernel_rfl)) (fun _ _ _ _ _ => (dgn 5 nd)) (fun _ _ _ _ _ => (dts_one (dt_cmp (d_notIn hu) (dv 5) (dv 3) rfl))) (fun _ _ _ _ _ => (dv 5))) da_nil)) de_int (nomark _)))))))
theorem c__law_is_region (W : Wd K mg) : Cal P w K mg base 3 "_law_is_region" r__law_is_region := by
  obtain ⟨h, X, G⟩ := W.ex
  obtain ⟨fd, F⟩ := W.c.def_ 27 (d := d__law_is_region) rfl
  exact cal_of F sc__law_is_region (He.glo_ok X G (W.c.fact 27 (f := .glo "_law_is_region") rfl)) (FunD.bindsN (ps := ["clocks", "limit", "x"]) F fun _ _ _ _ _ _ us hl => match us, hl with | [_, _, _], _ => rfl) law__law_is_region fun cdv A outer s H E hr => b__law_is_region W _ cdv A outer s H E hr
theorem sc_law : FnScope ["script", "pool", "clocks", "limit", "rows", "many", "plain", "row", "k", "values", "j"] ["script"] (defScope s_law) := ⟨rfl, rfl, rfl, by decide +kernel, rfl, by decide +kernel, by decide +kernel⟩
theorem b_law (W : Wd K mg) (f : Addr) (cdv : Value) (A : Around) (outer : List Env) (s : Shared) (H : Hp) (E : XK) (hr : Room 4 (A.deeper (envOfC "law" (defScope s_law) s.heap.objs.size f cdv))) :
    DSs (cxOf C8.CX0 P w K mg base ["script", "pool", "clocks", "limit", "rows", "many", "plain", "row", "k", "values", "j"] "law" (defScope s_law) f cdv A outer s H E) (defBody s_law) w_law :=
  have hu := hr.units
  have nd := sc_law.nd
  (dss_cons (ds_set nd (i := 1) rfl (by first | exact Or.inl rfl | exact Or.inr rfl) (de_call (c__law_pool W) hr (by decide) rfl (da_cons (dv 0) da_nil)) (hs := by with_unfolding_all rfl))
    (dss_cons (ds_set nd (i := 2) rfl (by first | exact Or.inl rfl | exact Or.inr rfl) (de_op d_add de_int (de_call (c__law_draw W) hr (by decide) rfl (da_cons (dv 1) (da_cons de_int da_nil)))) (hs := by with_unfolding_all rfl))
    (dss_cons (ds_set nd (i := 3) rfl (by first | exact Or.inl rfl | exact Or.inr rfl) (de_call (c__law_draw W) hr (by decide) rfl (da_cons (dv 1) (da_cons de_int da_nil))) (hs := by with_unfolding_all rfl))
    (dss_cons (ds_if (dt_cmp (d_eq hu) (de_call (c__law_draw W) hr (by decide) rfl (da_cons (dv 1) (da_cons de_int da_nil))) de_int (nomark _)) (dss_cons (ds_set nd (i := 2) rfl (by first | exact Or.inl rfl | exact Or.inr rfl) de_int (hs := by with_unfolding_all rfl))
    (dss_one (ds_set nd (i := 3) rfl (by first | exact Or.inl rfl | exact Or.inr rfl) (de_call (c__law_draw W) hr (by decide) rfl (da_cons (dv 1) (da_cons de_int da_nil))) (hs := by with_unfolding_all rfl)))) dss_nil)
    (dss_cons (ds_set nd (i := 4) rfl (by first | exact Or.inl rfl | exact Or.inr rfl) (de_call (c_all_regions W) hr (by decide) rfl (da_cons (dv 2) (da_cons (dv 3) da_nil))) (hs := by with_unfolding_all rfl))
    (dss_cons (ds_set nd (i := 5) rfl (by first | exact Or.inl rfl | exact Or.inr rfl) (de_ix (d_ix hu) (de_lst (da_cons (de_op d_add (de_op d_mulA de_int (dv 3)) de_int) (da_cons (de_op d_add (de_op d_add (de_op d_pow (de_op d_add (dv 3) de_int) de_int) (de_op d_mulA (de_op d_mulA de_int (dv 3)) (de_op d_add (dv 3) de_int))) (de_op d_mulA de_int (de_op d_pow (dv 3) de_int))) (da_cons de_int da_nil)))) (de_op d_sub (dv 2) de_int)) (hs := by with_unfolding_all rfl))
    (dss_cons (ds_if (dt_cmp (d_eq hu) (dv 2) de_int (nomark _)) (dss_cons (ds_set nd (i := 6) rfl (by first | exact Or.inl rfl | exact Or.inr rfl) (de_op d_add (dv 3) de_int) (hs := by with_unfolding_all rfl))
    (dss_one (ds_set nd (i := 5) rfl (by first | exact Or.inl rfl | exact Or.inr rfl) (de_op d_add (de_op d_add (de_op d_add (de_op d_mulA (de_op d_mulA (dv 6) (dv 6)) (dv 6)) (de_op d_mulA (de_op d_mulA (de_op d_mulA de_int (dv 6)) (dv 6)) (dv 3))) (de_op d_mulA (de_op d_mulA (de_op d_mulA de_int (dv 6)) (dv 3)) (dv 3))) (de_op d_mulA (de_op d_mulA (de_op d_mulA de_int (dv 3)) (dv 3)) (dv 3))) (hs := by with_unfolding_all rfl)))) dss_nil)
    (dss_cons (ds_if (DW.dt (dw_or (dt_not (dt_val (de_callB f_isi rfl (g_isinstance W) bb_isinstance (da_cons (dv 4) (da_cons (de_ty rfl (g_list W) bt_list) da_nil))))) (dw_or (dt_not (dt_val (de_call (c__law_up W) hr (by decide) rfl (da_cons (dv 4) da_nil)))) (dw_or1 (dt_cmp (d_ne hu) (de_callB f_len rfl (g_len W) bb_len (da_cons (dv 4) da_nil)) (dv 5) (nomark _)))))) (dss_one (ds_ret de_bl)) dss_nil)
    (dss_cons (ds_for (passes_of rfl) rfl (di_seq (dv 4)) (dgn 7 nd) (dss_one (ds_if (dt_not (dt_val (de_call (c__law_is_region W) hr (by decide) rfl (da_cons (dv 2) (da_cons (dv 3) (da_cons (dv 7) da_nil)))))) (dss_one (ds_ret de_bl)) dss_nil)))
    (dss_cons (ds_for (passes_of rfl) rfl (di_range1 rfl (g_range W) (da_cons de_int da_nil)) (dgn 8 nd) (dss_cons (ds_set nd (i := 7) rfl (by first | exact Or.inl rfl | exact Or.inr rfl) (de_ix (d_ix hu) (dv 4) (de_call (c__law_draw W) hr (by decide) rfl (da_cons (dv 1) (da_cons (de_callB f_len rfl (g_len W) bb_len (da_cons (dv 4) da_nil)) da_nil)))) (hs := by with_unfolding_all rfl))
    (dss_cons (ds_if (DW.dt (dw_or (dt_cmp (d_ne hu) (de_call (c_region_of W) hr (by decide) rfl (da_cons (de_call (c_sample W) hr (by decide) rfl (da_cons (dv 7) (da_cons (dv 3) da_nil))) (da_cons (dv 3) da_nil))) (dv 7) (nomark _)) (dw_or1 (dt_cmp (d_ne hu) (de_cmp d_is (de_call (c_later W) hr (by decide) rfl (da_cons (dv 7) (da_cons (dv 3) da_nil))) de_non (nomark _)) (de_cmp (d_eq hu) (dv 7) (de_op d_mulA (de_tup (da_cons (de_tup (da_cons (de_op d_add (de_op d_mulA de_int (dv 3)) de_int) (da_cons de_int da_nil))) da_nil)) (dv 2)) (nomark _)) (nomark _))))) (dss_one (ds_ret de_bl)) dss_nil)
    (dss_cons (ds_set nd (i := 9) rfl (by first | exact Or.inl rfl | exact Or.inr rfl) (de_callTy f_tuple rfl (g_tuple W) bt_tuple (da_cons (de_lc (own := [("j", 10)]) rfl nd (di_range1 rfl (g_range W) (da_cons (dv 2) da_nil)) (blkOk_by (by kernel_rfl)) (fun _ _ _ _ _ => (dgn 10 nd)) (fun _ _ _ _ _ => dts_nil) (fun _ _ _ _ _ => (de_call (c__law_fraction W) hr (by decide) rfl (da_cons (dv 1) (da_cons de_int da_nil))))) da_nil)) (hs := by with_unfolding_all rfl))
    (dss_one (ds_if (dt_cmp (d_notIn hu) (de_call (c_region_of W) hr (by decide) rfl (da_cons (dv 9) (da_cons (dv 3) da_nil))) (dv 4) rfl) (dss_one (ds_ret de_bl)) dss_nil))))))
    (dss_one (ds_ret de_bl))))))))))))
theorem c_law (W : Wd K mg) : Cal P w K mg base 5 "law" r_law := by
  obtain ⟨h, X, G⟩ := W.ex
  obtain ⟨fd, F⟩ := W.c.def_ 28 (d := d_law) rfl
  exact cal_of F sc_law (He.glo_ok X G (W.c.fact 28 (f := .glo "law") rfl)) (FunD.bindsN (ps := ["script"]) F fun _ _ _ _ _ _ us hl => match us, hl with | [_], _ => rfl) law_law fun cdv A outer s H E hr => b_law W _ cdv A outer s H E hr
end
end K05

set_option maxHeartbeats 0
namespace K05
open PySem PySem.Spec PyProof.Rows L2 MP HD
theorem rels_ints {K : PySem.W.Frag} {H : Hp} : ∀ ns : List Int, RelDs K H (ns.map D.int) (ns.map V.int)
  | [] => .nil
  | n :: ns => .cons (.int n) (rels_ints ns)
theorem fl_of {K : PySem.W.Frag} {H : Hp} {a : Addr} {xs : List V} (o : Only H) (h : SqL K H a xs) : FlAt K H a xs := by
  rcases h with (h | h) | h
  · rcases o a with e | ⟨u, ys, e⟩
    · rw [e] at h; cases h
    · rw [e] at h; cases h
  · exact .inl h
  · exact .inr h
theorem law_start {P : Program} {w : World} {K : PySem.W.Frag} {H : Hp} {a : Addr} {ns : List Int} (hl : ns.length ≤ 63) (o : Only H) (h : SqL K H a (ns.map V.int)) : lSp P w K r_law [.ref a] H (fun v _ => v = .bl true) fun _ _ _ => False :=
  ⟨[.fl (ns.map .int)], fun _ => none, fun d _ => d = .bl true, .cons (.fl (fl_of o h) (rels_ints ns)) .nil, fun _ _ e => (by cases e), ⟨⟨ns, rfl, hl⟩, fun _ => rfl⟩, fun v d H' M' _ _ r q => by subst q; cases r; rfl⟩
theorem law_facts {P : Program} {w : World} {K : PySem.W.Frag} {h : Heap} {mg : Str → Option Value} {f : Addr} (X : K.In h) (G : h.Ns mainGlobals mg) (hfa : mg ("law" : Str) = some (.ref f)) (c : He.SaysD fa fn K) :
    ∃ fd : FuncData, (∀ (s : Shared) (v : Value), BindsTo s fd ⟨[v], []⟩ [("script", v)]) ∧ ∀ base : Heap, K.In base → base.Ns mainGlobals mg → FnOk P w K mg base C8.CX0 5 f fd ["script"] (lSp P w K r_law) := by
  have W : Wd K mg := ⟨⟨h, X, G⟩, c⟩
  obtain ⟨fd, F⟩ := c.def_ 28 (d := d_law) rfl
  have e := hfa.symm.trans (He.glo_ok X G (c.fact 28 (f := .glo "law") rfl))
  cases e
  have b := FunD.bindsA (ps := ["script"]) F fun _ _ _ _ _ _ us hl => match us, hl with | [_], _ => rfl
  exact ⟨fd, fun s v => b s [v] rfl, fun base _ _ => fnok F sc_law law_law fun cdv A outer s H E hr => b_law W _ cdv A outer s H E hr⟩
end K05
open PySem PySem.W PySem.Calls PyProof.Rows
theorem PySem.Challenge.cw_clockways_k05_all_regions_listed_holds : PySem.Challenge.rw_clockways_k05_all_regions_listed.Holds := by
  w_on; o_law
  refine HandSHeadRun.head_any (r := OpenLaw.row PySem.Challenge.rw_clockways_k05_all_regions_listed) (q := view (OpenLaw.row PySem.Challenge.rw_clockways_k05_all_regions_listed).prog [32]) (H := HD.hk) (ob := HD.ob) (M := 4000) (loose := HD.loose) (d := HandSHeadRun.topDef (OpenLaw.row PySem.Challenge.rw_clockways_k05_all_regions_listed).prog 32) (kwd := []) HD.ob_eq
    (by kernel_rfl) (fun s => by kernel_rfl) HD.run (by kernel_rfl) (by kernel_rfl) (by kernel_rfl) (by rfl) (by first | assumption | decide +kernel) (by decide +kernel) ⟨rfl, rfl, rfl, rfl, rfl, by decide +kernel⟩ ?hw ?hc
  case hw => w_witness2
  case hc =>
    refine L2.walk_ofE (l := PySem.Challenge.rw_clockways_k05_all_regions_listed) (n := 63) (k := 5) (x := "script") (CX := C8.CX0) rfl (by decide) (by kernel_rfl) ⟨rfl, by decide, by decide⟩ ?F (fun _ _ _ _ z => z)
    intro w mg fa h Y G hmg0
    obtain ⟨K, KX, c⟩ := Y
    have hmg : mg ("law" : PySem.Str) = some (.ref fa) := by
      have e : (HandSHeadRun.topDef (OpenLaw.row PySem.Challenge.rw_clockways_k05_all_regions_listed).prog 32).name = ("law" : PySem.Str) := by kernel_rfl
      rw [← e]
      exact hmg0
    obtain ⟨fd, hb, hF⟩ := K05.law_facts (P := (PySem.Challenge.rw_clockways_k05_all_regions_listed).prog) (w := w) KX G hmg c
    exact ⟨K, fd, MP.lSp _ w K K05.r_law, KX, hb, fun H a ns hl o hS => K05.law_start hl o hS, hF⟩
