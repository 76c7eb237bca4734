import PyProof.Rows.All
import Wide.All
import OpenK.AllK
import Wide.FinOn
import HandS.ForMost
import HandS.TupAny
import HandS.Deep
import HandS.IsInst
import HandS.Wide
import KE.KeyNested
import HandS.HeadHook1
import KE.KDictKeyed
import PyProof.Rows.TupTab
import HandS.TupLen
import HandS.Sort
import HandS.Style
import HandS.SortInts
import HandS.More
import PyProof.TupleOfSeq
import HandS.Strs
import PyProof.ReprRoads
import HandS.TupSets
import HandS.Iter
import HandS.Zip
import HandS.Comp
import HandS.HeadEnd
import HandS.Defaults
import HandS.HeadHook2
import HandS.Conv
import HandS.Dict
import HandS.HeadHook4
import KE.SortData
import HandS.TupMul
import HandS.DictComp
import HandS.TupLe
import KE.KDictPairs
import KE.KDictDisplayH
import KE.KDictZip
import KE.KDictItemsList
import KE.GoesMore
import KE.GoesEnum
import PyProof.DictUpdate
import HandS.ExcOwn
import HandS.ExcIs
import HandS.WordsExc
import HandS.DictTup
import PyProof.DictMoreH
import KE.KStateDown
import HandS.Head0
import HandS.Head1
import HandS.Head2
import PySem.Challenge.RW_eachinturn_k29_first_alike
set_option Elab.async false
set_option linter.all false
set_option maxRecDepth 100000
set_option maxHeartbeats 8000000
/-! PL0: a layer of plain data over the hand layer: data, what stands for it in the abstract heap, steps. -/
namespace PL
open PySem PySem.Spec PyProof.Rows L2

/-- the world at hand: the hashes of texts are its own -/
class TheW where
  w : World
variable [TheW]
abbrev D := PyData
/-- what a list or dict that may change holds -/
inductive OC where
  | L (xs : List D)
  | M (kvs : List (D × D))
def OC.toD : OC → D
  | .L xs => .list xs
  | .M kvs => .dict kvs
/-- what a slot holds: nothing; data that stands still; an own list or dict; one that a caller owns; an instance of the class C that stands still -/
inductive DV where
  | un
  | v (d : D)
  | own (o : OC)
  | brw (o : OC)
  | ob (C : Str) (fs : List (Str × D))
/-- what an expression hands on: data; the list of a slot; a new list that nobody else holds; an instance -/
inductive RV where
  | d (x : D)
  | al (i : Nat)
  | nl (o : OC)
  | ob (C : Str) (fs : List (Str × D))
abbrev Ev := List DV
abbrev ME := Ev → Option (RV × Ev)
abbrev MT := Ev → Option (Bool × Ev)
abbrev MA := Ev → Option (List RV × Ev)
abbrev MD := Ev → Option (D × Ev)
abbrev MDs := Ev → Option (List D × Ev)
inductive Out where
  | nx | bk | ct
  | rt (r : RV)
abbrev MS := Ev → Option (Out × Ev)
abbrev MG := D → Ev → Option Ev

def kD : Key → D
  | .inl i => .int i
  | .inr x => .str x
mutual
/-- data as a key -/
def nkD : D → Option NestedKey
  | .none => some .none
  | .int i => some (.num i)
  | .str x => some (.text x)
  | .tuple ds => (nkDs ds).map .tup
  | .bool _ => none
  | .list _ => none
  | .dict _ => none
def nkDs : List D → Option (List NestedKey)
  | [] => some []
  | d :: ds => (nkD d).bind fun k => (nkDs ds).map (k :: ·)
end
/-- .. as deep as keys may be -/
def keyD : D → Option NestedKey
  | .int i => some (.num i)
  | .str x => some (.text x)
  | .tuple ds => (nkDs ds).bind fun ks => if (NestedKey.tup ks).depth ≤ 8 then some (.tup ks) else none
  | _ => none
/-- the object of a dict whose keys are tuples -/
def TDict (w : World) (a : Addr) (es : List (NestedKey × Addr × V)) (h : Heap) : Prop :=
  (a == sysModules) = false ∧ es.length ≤ sizeLine ∧ (es.map (·.1)).Nodup ∧ ∃ (xs : List (NestedKey × Addr × Value)) (o : Obj) (ds : Array DictEntry) (ep : Nat),
    Paired (fun (p : NestedKey × Addr × V) (q : NestedKey × Addr × Value) => p.1 = q.1 ∧ p.2.1 = q.2.1 ∧ RelV p.2.2 q.2.2) es xs ∧
    h.get? a = some o ∧ o.ExactDict ∧ o.data = .dict ds ep ∧ ds.toList = xs.map fun x => (⟨x.1.hash w, .ref x.2.1, x.2.2⟩ : DictEntry)

/-- a list that is read and stands still -/
def LsZ (K : PySem.W.Frag) (H : Hp) (O : Addr → Prop) (a : Addr) (xs : List V) : Prop :=
  (Rd H a (.lst xs) ∧ ¬ O a) ∨
    ∃ (o : Obj) (its : Array Value) (n : Nat), K.lookup a = some o ∧ o.cls = .type "list" ∧ o.dict = none ∧ o.data = .seq its n ∧ its.size ≤ sizeLine ∧ Vals xs its.toList
/-- a tuple, known to its object (which has no dict of its own) -/
def TpZ (K : PySem.W.Frag) (H : Hp) (O : Addr → Prop) (a : Addr) (xs : List V) : Prop :=
  (∃ o : Obj, H a = some (.frz o (.tup xs)) ∧ o.dict = none ∧ ¬ O a) ∨
    ∃ (o : Obj) (its : Array Value) (n : Nat), K.lookup a = some o ∧ o.cls = .type "tuple" ∧ o.dict = none ∧ o.data = .seq its n ∧ its.size ≤ sizeLine ∧ Vals xs its.toList
theorem LsZ.sq {K : PySem.W.Frag} {H : Hp} {O : Addr → Prop} {a : Addr} {xs : List V} (h : LsZ K H O a xs) : SqL K H a xs := by
  rcases h with ⟨h, _⟩ | h
  · exact .inl h
  · exact .inr h
theorem TpZ.sq {K : PySem.W.Frag} {H : Hp} {O : Addr → Prop} {a : Addr} {xs : List V} (h : TpZ K H O a xs) : SqT K H a xs := by
  rcases h with ⟨o, h, _⟩ | ⟨o, its, n, h1, h2, _, h3⟩
  · exact .inl (.inr ⟨o, h⟩)
  · exact .inr ⟨o, its, n, h1, h2, h3⟩
mutual
/-- x stands for the data d, whose lists and dicts lie outside O -/
inductive Fz (K : PySem.W.Frag) (H : Hp) (O : Addr → Prop) : V → D → Prop
  | non : Fz K H O .non .none
  | bl (b : Bool) : Fz K H O (.bl b) (.bool b)
  | int (i : Int) : Fz K H O (.int i) (.int i)
  | str (x : Str) : Fz K H O (.str x) (.str x)
  | lst {a : Addr} {xs : List V} {ds : List D} : LsZ K H O a xs → FzAll K H O xs ds → Fz K H O (.ref a) (.list ds)
  | tup {a : Addr} {xs : List V} {ds : List D} : TpZ K H O a xs → FzAll K H O xs ds → Fz K H O (.ref a) (.tuple ds)
  | dk {a : Addr} {ks : List (Key × V)} {kvs : List (D × D)} : H a = some (.dK ks) → ¬ O a → ks.map (fun p => kD p.1) = kvs.map (·.1) → FzKv K H O (ks.map (·.2)) kvs → Fz K H O (.ref a) (.dict kvs)
  | dt {a : Addr} {es : List (NestedKey × Addr × V)} {kvs : List (D × D)} : es ≠ [] → H a = some (.ext (TDict TheW.w a es)) → ¬ O a → kvs.map (fun p => keyD p.1) = es.map (fun e => some e.1) → FzKk K H O (es.map fun e => .ref e.2.1) kvs →
      FzKv K H O (es.map (·.2.2)) kvs → Fz K H O (.ref a) (.dict kvs)
inductive FzAll (K : PySem.W.Frag) (H : Hp) (O : Addr → Prop) : List V → List D → Prop
  | nil : FzAll K H O [] []
  | cons {v : V} {vs : List V} {d : D} {ds : List D} : Fz K H O v d → FzAll K H O vs ds → FzAll K H O (v :: vs) (d :: ds)
inductive FzKv (K : PySem.W.Frag) (H : Hp) (O : Addr → Prop) : List V → List (D × D) → Prop
  | nil : FzKv K H O [] []
  | cons {v : V} {vs : List V} {k d : D} {ds : List (D × D)} : Fz K H O v d → FzKv K H O vs ds → FzKv K H O (v :: vs) ((k, d) :: ds)
inductive FzKk (K : PySem.W.Frag) (H : Hp) (O : Addr → Prop) : List V → List (D × D) → Prop
  | nil : FzKk K H O [] []
  | cons {v : V} {vs : List V} {k d : D} {ds : List (D × D)} : Fz K H O v k → FzKk K H O vs ds → FzKk K H O (v :: vs) ((k, d) :: ds)
end
/-- an own dict whose keys are tuples -/
def TAt (K : PySem.W.Frag) (H : Hp) (O : Addr → Prop) (a : Addr) (kvs : List (D × D)) : Prop := ∃ es : List (NestedKey × Addr × V),
  es ≠ [] ∧ H a = some (.ext (TDict TheW.w a es)) ∧ kvs.map (fun p => keyD p.1) = es.map (fun e => some e.1) ∧ FzKk K H O (es.map fun e => .ref e.2.1) kvs ∧ FzKv K H O (es.map (·.2.2)) kvs
/-- heaps: what lies outside O is kept; O grows by new addresses alone -/
structure Mv (H : Hp) (O : Addr → Prop) (H' : Hp) (O' : Addr → Prop) : Prop where
  keep : ∀ a o, H a = some o → ¬ O a → H' a = some o
  sub : ∀ a, O' a → O a ∨ H a = none
section
variable {K : PySem.W.Frag} {H H' : Hp} {O O' : Addr → Prop}
theorem Mv.rd (m : Mv H O H' O') {a : Addr} {u : HO} (h : Rd H a u) (n : ¬ O a) : Rd H' a u ∧ ¬ O' a := by
  have nn : H a ≠ none := by
    rcases h with h | ⟨o, h⟩ <;> (rw [h]; exact nofun)
  refine ⟨?_, fun z => (m.sub a z).elim n nn⟩
  rcases h with h | ⟨o, h⟩
  · exact .inl (m.keep a _ h n)
  · exact .inr ⟨o, m.keep a _ h n⟩
theorem LsZ.mv (m : Mv H O H' O') {a : Addr} {xs : List V} (h : LsZ K H O a xs) : LsZ K H' O' a xs := by
  rcases h with ⟨h, n⟩ | h
  · exact .inl (m.rd h n)
  · exact .inr h
theorem TpZ.mv (m : Mv H O H' O') {a : Addr} {xs : List V} (h : TpZ K H O a xs) : TpZ K H' O' a xs := by
  rcases h with ⟨o, h, d, n⟩ | h
  · exact .inl ⟨o, m.keep a _ h n, d, fun z => (m.sub a z).elim n fun w => by rw [h] at w; cases w⟩
  · exact .inr h
mutual
theorem Fz.mv (m : Mv H O H' O') : ∀ (d : D) (x : V), Fz K H O x d → Fz K H' O' x d
  | .none, _, h => by cases h; exact .non
  | .bool b, _, h => by cases h; exact .bl b
  | .int i, _, h => by cases h; exact .int i
  | .str x, _, h => by cases h; exact .str x
  | .list ds, _, h => by
    cases h with
    | lst h1 h2 => exact .lst (h1.mv m) (FzAll.mv m ds _ h2)
  | .tuple ds, _, h => by
    cases h with
    | tup h1 h2 => exact .tup (h1.mv m) (FzAll.mv m ds _ h2)
  | .dict kvs, _, h => by
    cases h with
    | dk h1 h2 h3 h4 => exact .dk (m.keep _ _ h1 h2) (m.rd (.inl h1) h2).2 h3 (FzKv.mv m kvs _ h4)
    | dt h0 h1 h2 h3 h4 h5 => exact .dt h0 (m.keep _ _ h1 h2) (m.rd (.inl h1) h2).2 h3 (FzKk.mv m kvs _ h4) (FzKv.mv m kvs _ h5)
theorem FzAll.mv (m : Mv H O H' O') : ∀ (ds : List D) (xs : List V), FzAll K H O xs ds → FzAll K H' O' xs ds
  | [], _, h => by cases h; exact .nil
  | d :: ds, _, h => by
    cases h with
    | cons h1 h2 => exact .cons (Fz.mv m d _ h1) (FzAll.mv m ds _ h2)
theorem FzKv.mv (m : Mv H O H' O') : ∀ (ds : List (D × D)) (xs : List V), FzKv K H O xs ds → FzKv K H' O' xs ds
  | [], _, h => by cases h; exact .nil
  | (k, d) :: ds, _, h => by
    cases h with
    | cons h1 h2 => exact .cons (Fz.mv m d _ h1) (FzKv.mv m ds _ h2)
theorem FzKk.mv (m : Mv H O H' O') : ∀ (ds : List (D × D)) (xs : List V), FzKk K H O xs ds → FzKk K H' O' xs ds
  | [], _, h => by cases h; exact .nil
  | (k, d) :: ds, _, h => by
    cases h with
    | cons h1 h2 => exact .cons (Fz.mv m k _ h1) (FzKk.mv m ds _ h2)
end
theorem Mv.of_sub (h : ∀ a, O' a → O a) : Mv H O H O' := ⟨fun _ _ e _ => e, fun a z => .inl (h a z)⟩
theorem FzAll.length : ∀ {xs : List V} {ds : List D}, FzAll K H O xs ds → xs.length = ds.length
  | _, _, .nil => rfl
  | _, _, .cons _ t => by rw [List.length_cons, List.length_cons, FzAll.length t]
theorem FzAll.get : ∀ {xs : List V} {ds : List D} {i : Nat} {d : D}, FzAll K H O xs ds → ds[i]? = some d → ∃ x, xs[i]? = some x ∧ Fz K H O x d
  | _, _, _, _, .nil, e => by simp at e
  | _, _, 0, _, .cons r _, e => by simp at e; subst e; exact ⟨_, rfl, r⟩
  | _, _, i + 1, d, .cons _ t, e => by
    obtain ⟨u, h1, h2⟩ := FzAll.get (i := i) (d := d) t (by simpa using e)
    exact ⟨u, by simpa using h1, h2⟩
theorem FzAll.append : ∀ {xs ys : List V} {ds es : List D}, FzAll K H O xs ds → FzAll K H O ys es → FzAll K H O (xs ++ ys) (ds ++ es)
  | _, _, _, _, .nil, s => s
  | _, _, _, _, .cons r t, s => .cons r (FzAll.append t s)
theorem FzAll.take : ∀ {xs : List V} {ds : List D} (n : Nat), FzAll K H O xs ds → FzAll K H O (xs.take n) (ds.take n)
  | _, _, 0, _ => .nil
  | _, _, _ + 1, .nil => .nil
  | _, _, n + 1, .cons r t => .cons r (FzAll.take n t)
theorem FzAll.drop : ∀ {xs : List V} {ds : List D} (n : Nat), FzAll K H O xs ds → FzAll K H O (xs.drop n) (ds.drop n)
  | _, _, 0, r => r
  | _, _, _ + 1, .nil => .nil
  | _, _, n + 1, .cons _ t => FzAll.drop n t
theorem FzAll.set : ∀ {xs : List V} {ds : List D} (n : Nat) {x : V} {d : D}, FzAll K H O xs ds → Fz K H O x d → FzAll K H O (xs.set n x) (ds.set n d)
  | _, _, _, _, _, .nil, _ => .nil
  | _, _, 0, _, _, .cons _ t, q => .cons q t
  | _, _, n + 1, _, _, .cons r t, q => .cons r (FzAll.set n t q)
theorem FzAll.eraseIdx : ∀ {xs : List V} {ds : List D} (n : Nat), FzAll K H O xs ds → FzAll K H O (xs.eraseIdx n) (ds.eraseIdx n)
  | _, _, _, .nil => .nil
  | _, _, 0, .cons _ t => t
  | _, _, n + 1, .cons r t => .cons r (FzAll.eraseIdx n t)
theorem FzAll.reverse : ∀ {xs : List V} {ds : List D}, FzAll K H O xs ds → FzAll K H O xs.reverse ds.reverse
  | _, _, .nil => .nil
  | _, _, .cons r t => by
    rw [List.reverse_cons, List.reverse_cons]
    exact (FzAll.reverse t).append (.cons r .nil)

/-- what an own list or dict holds -/
def OcAt (K : PySem.W.Frag) (H : Hp) (O : Addr → Prop) (a : Addr) : OC → Prop
  | .L xs => ∃ vs, H a = some (.lst vs) ∧ FzAll K H O vs xs
  | .M kvs => (∃ ks : List (Key × V), H a = some (.dK ks) ∧ ks.map (fun p => kD p.1) = kvs.map (·.1) ∧ FzKv K H O (ks.map (·.2)) kvs) ∨
      TAt K H O a kvs
theorem OcAt.mv (m : Mv H O H' O') {a : Addr} {o : OC} (h : OcAt K H O a o) (e : H' a = H a) : OcAt K H' O' a o := by
  cases o with
  | L xs =>
    obtain ⟨vs, h1, h2⟩ := h
    exact ⟨vs, e.trans h1, FzAll.mv m _ _ h2⟩
  | M kvs =>
    rcases h with ⟨ks, h1, h2, h3⟩ | ⟨es, h0, h1, h2, h3, h4⟩
    · exact .inl ⟨ks, e.trans h1, h2, FzKv.mv m _ _ h3⟩
    · exact .inr ⟨es, h0, e.trans h1, h2, FzKk.mv m _ _ h3, FzKv.mv m _ _ h4⟩
theorem OcAt.fz {a : Addr} {o : OC} (h : OcAt K H O a o) (n : ¬ O a) : Fz K H O (.ref a) o.toD := by
  cases o with
  | L xs =>
    obtain ⟨vs, h1, h2⟩ := h
    exact .lst (.inl ⟨.inl h1, n⟩) h2
  | M kvs =>
    rcases h with ⟨ks, h1, h2, h3⟩ | ⟨es, h0, h1, h2, h3, h4⟩
    · exact .dk h1 n h2 h3
    · exact .dt h0 h1 n h2 h3 h4
theorem OcAt.there {a : Addr} {o : OC} (h : OcAt K H O a o) : H a ≠ none := by
  cases o with
  | L xs => obtain ⟨vs, h1, _⟩ := h; rw [h1]; exact nofun
  | M kvs => rcases h with ⟨ks, h1, _⟩ | ⟨es, _, h1, _⟩ <;> (rw [h1]; exact nofun)

/-- x is an instance of the class C with the fields fs, that stands still -/
def ObOk (K : PySem.W.Frag) (H : Hp) (O : Addr → Prop) (x : V) (C : Str) (fs : List (Str × D)) : Prop := ∃ (a dx : Addr) (fv : List (Str × V)),
  x = .ref a ∧ ¬ O a ∧ H a = some (.ins (He.ga K C) dx fv) ∧ fv.map (·.1) = fs.map (·.1) ∧ FzAll K H O (fv.map (·.2)) (fs.map (·.2))
theorem ObOk.mv (m : Mv H O H' O') {x : V} {C : Str} {fs : List (Str × D)} (h : ObOk K H O x C fs) : ObOk K H' O' x C fs := by
  obtain ⟨a, dx, fv, e, n, h1, h2, h3⟩ := h
  exact ⟨a, dx, fv, e, fun z => (m.sub a z).elim n fun w => (by rw [h1] at w; cases w), m.keep a _ h1 n, h2, FzAll.mv m _ _ h3⟩

/-! ### slots -/
def Ow (ρ : Ev) (i : Nat) : Prop := ∃ o, ρ[i]? = some (.own o) ∨ ρ[i]? = some (.brw o)
def Ed (σ : L2.St) (ρ : Ev) (a : Addr) : Prop := ∃ i, Ow ρ i ∧ σ[i]? = some (some (.ref a))
def SlotOk (K : PySem.W.Frag) (H : Hp) (O : Addr → Prop) (s : Option V) : DV → Prop
  | .un => True
  | .v d => ∃ x, s = some x ∧ Fz K H O x d
  | .own o => ∃ a, s = some (.ref a) ∧ O a ∧ OcAt K H O a o
  | .brw o => ∃ a, s = some (.ref a) ∧ O a ∧ OcAt K H O a o
  | .ob C fs => ∃ x, s = some x ∧ ObOk K H O x C fs
structure EnvOk (K : PySem.W.Frag) (H : Hp) (O : Addr → Prop) (σ : L2.St) (ρ : Ev) : Prop where
  len : σ.length = ρ.length
  slot : ∀ (i : Nat) (c : DV), ρ[i]? = some c → ∃ s, σ[i]? = some s ∧ SlotOk K H O s c
  dis : ∀ (i j : Nat) (a : Addr), Ow ρ i → Ow ρ j → σ[i]? = some (some (.ref a)) → σ[j]? = some (some (.ref a)) → i = j
  tr : ∀ a, O a → H a ≠ none
structure Stp (σ : L2.St) (ρ : Ev) (O : Addr → Prop) (H : Hp) (σ' : L2.St) (ρ' : Ev) (O' : Addr → Prop) (H' : Hp) : Prop where
  keep : ∀ a o, H a = some o → ¬ Ed σ ρ a → H' a = some o
  there : ∀ a, H a ≠ none → H' a ≠ none
  sub : ∀ a, O' a → O a ∨ H a = none
  stay : ∀ a, O a → ¬ Ed σ ρ a → O' a
  env : ∀ a, Ed σ' ρ' a → Ed σ ρ a ∨ H a = none
  bst : ∀ (i : Nat) (o : OC), ρ[i]? = some (DV.brw o) → (∃ o', ρ'[i]? = some (DV.brw o')) ∧ σ'[i]? = σ[i]?
variable {σ σ' σ1 σ2 : L2.St} {ρ ρ' ρ1 ρ2 : Ev} {O1 O2 : Addr → Prop} {H1 H2 : Hp}
theorem EnvOk.ed (E : EnvOk K H O σ ρ) {a : Addr} (h : Ed σ ρ a) : O a := by
  obtain ⟨i, ⟨o, h1 | h1⟩, h2⟩ := h
  all_goals
    obtain ⟨s, e, b, q1, q2, _⟩ := E.slot i _ h1
    rw [h2] at e
    cases e
    cases q1
    exact q2
theorem Stp.refl : Stp σ ρ O H σ ρ O H := ⟨fun _ _ h _ => h, fun _ h => h, fun _ h => .inl h, fun _ h _ => h, fun _ h => .inl h, fun i o h => ⟨⟨o, h⟩, rfl⟩⟩
theorem Stp.trans (tr : ∀ a, O a → H a ≠ none) (a : Stp σ ρ O H σ1 ρ1 O1 H1) (b : Stp σ1 ρ1 O1 H1 σ2 ρ2 O2 H2) : Stp σ ρ O H σ2 ρ2 O2 H2 where
  keep := fun c o h n => b.keep c o (a.keep c o h n) fun z => (a.env c z).elim n (by rw [h]; exact nofun)
  there := fun c h => b.there c (a.there c h)
  sub := fun c h => (b.sub c h).elim (a.sub c) fun z => .inr (Classical.byContradiction fun q => a.there c q z)
  stay := fun c h n => b.stay c (a.stay c h n) fun z => (a.env c z).elim n (tr c h)
  env := fun c h => (b.env c h).elim (a.env c) fun z => .inr (Classical.byContradiction fun q => a.there c q z)
  bst := fun i o h => by
    obtain ⟨⟨o1, h1⟩, e1⟩ := a.bst i o h
    obtain ⟨⟨o2, h2⟩, e2⟩ := b.bst i o1 h1
    exact ⟨⟨o2, h2⟩, e2.trans e1⟩
theorem Stp.mv (a : Stp σ ρ O H σ1 ρ1 O1 H1) (E : EnvOk K H O σ ρ) : Mv H O H1 O1 := ⟨fun c o h n => a.keep c o h fun z => n (E.ed z), a.sub⟩

/-- what r says of x; H0: the heap ahead -/
def RvOk (K : PySem.W.Frag) (H0 H : Hp) (O : Addr → Prop) (σ : L2.St) (ρ : Ev) (x : V) : RV → Prop
  | .d d => Fz K H O x d
  | .al i => σ[i]? = some (some x)
  | .nl o => ∃ a, x = .ref a ∧ O a ∧ ¬ Ed σ ρ a ∧ H0 a = none ∧ OcAt K H O a o
  | .ob C fs => ObOk K H O x C fs
theorem RvOk.stp {H0 : Hp} {x : V} {r : RV} (h : RvOk K H0 H O σ ρ x r) (E : EnvOk K H O σ ρ) (s : Stp σ ρ O H σ ρ1 O1 H1) : RvOk K H0 H1 O1 σ ρ1 x r := by
  cases r with
  | d d => exact Fz.mv (s.mv E) d x h
  | al i => exact h
  | nl o =>
    obtain ⟨a, e, h1, h2, h3, h4⟩ := h
    refine ⟨a, e, s.stay a h1 h2, fun z => (s.env a z).elim h2 h4.there, h3, h4.mv (s.mv E) ?_⟩
    cases q : H a with
    | none => exact absurd q h4.there
    | some u => exact s.keep a u q h2
  | ob C fs => exact ObOk.mv (s.mv E) h
theorem RvOk.back {H0 H00 : Hp} {x : V} {r : RV} (h : RvOk K H0 H O σ ρ x r) (e : ∀ a, H00 a ≠ none → H0 a ≠ none) : RvOk K H00 H O σ ρ x r := by
  cases r with
  | d d => exact h
  | al i => exact h
  | nl o =>
    obtain ⟨a, e1, h1, h2, h3, h4⟩ := h
    exact ⟨a, e1, h1, h2, Classical.byContradiction fun q => e a q h3, h4⟩
  | ob C fs => exact h
end
end PL

/-! PL1: the judgements over plain data, freezing, looking, statements. -/
namespace PL
open PySem PySem.Spec PyProof.Rows L2
variable [TheW]

/-- what an expression hands on, as data, the slots as they are -/
def look (ρ : Ev) : RV → Option D
  | .d x => some x
  | .nl o => some o.toD
  | .al i => match ρ[i]? with
    | some (.v d) => some d
    | some (.own o) => some o.toD
    | some (.brw o) => some o.toD
    | _ => none
  | .ob _ _ => none
/-- .. given away: an own list of a slot stands still from here on -/
def frz (ρ : Ev) : RV → Option (D × Ev)
  | .d x => some (x, ρ)
  | .nl o => some (o.toD, ρ)
  | .al i => match ρ[i]? with
    | some (.v d) => some (d, ρ)
    | some (.own o) => some (o.toD, ρ.set i (.v o.toD))
    | _ => none
  | .ob _ _ => none

/-- looked at: the list itself may be an own one -/
def Lk (K : PySem.W.Frag) (H : Hp) (O : Addr → Prop) (x : V) (d : D) : Prop :=
  Fz K H O x d ∨ ∃ a o, x = .ref a ∧ d = o.toD ∧ OcAt K H O a o

section
variable {K : PySem.W.Frag} {H H' H0 : Hp} {O O' : Addr → Prop} {σ σ' σ1 σ2 : L2.St} {ρ ρ' ρ1 ρ2 : Ev} {O1 O2 : Addr → Prop} {H1 H2 : Hp} {x : V} {d : D} {r : RV}
theorem look_ok (E : EnvOk K H O σ ρ) (h : RvOk K H0 H O σ ρ x r) (e : look ρ r = some d) : Lk K H O x d := by
  cases r with
  | d y =>
    cases (show some y = some d from e)
    exact .inl h
  | nl o =>
    cases (show some o.toD = some d from e)
    obtain ⟨a, e1, _, _, _, h4⟩ := h
    exact .inr ⟨a, o, e1, rfl, h4⟩
  | al i =>
    have h : σ[i]? = some (some x) := h
    unfold look at e
    dsimp only at e
    split at e
    · rename_i y q
      cases e
      obtain ⟨s, es, z, ez, hz⟩ := E.slot i _ q
      rw [h] at es
      cases es
      cases ez
      exact .inl hz
    · rename_i o q
      cases e
      obtain ⟨s, es, a, ea, _, hz⟩ := E.slot i _ q
      rw [h] at es
      cases es
      cases ea
      exact .inr ⟨a, o, rfl, rfl, hz⟩
    · rename_i o q
      cases e
      obtain ⟨s, es, a, ea, _, hz⟩ := E.slot i _ q
      rw [h] at es
      cases es
      cases ea
      exact .inr ⟨a, o, rfl, rfl, hz⟩
    · cases e
  | ob C fs => cases e
theorem getElem?_set_of {α : Type} {l : List α} {i j : Nat} {x y : α} (h : (l.set i x)[j]? = some y) : (j = i ∧ y = x) ∨ (j ≠ i ∧ l[j]? = some y) := by
  by_cases e : j = i
  · subst e
    by_cases hl : j < l.length
    · rw [List.getElem?_set_self hl] at h
      exact .inl ⟨rfl, (Option.some.inj h).symm⟩
    · rw [List.getElem?_eq_none (by simpa using hl)] at h
      cases h
  · rw [List.getElem?_set_ne (Ne.symm e)] at h
    exact .inr ⟨e, h⟩
theorem Ow.of_set_v {i j : Nat} {d : D} (h : Ow (ρ.set i (.v d)) j) : j ≠ i ∧ Ow ρ j := by
  obtain ⟨o, h | h⟩ := h
  · rcases getElem?_set_of h with ⟨_, z⟩ | ⟨n, z⟩
    · cases z
    · exact ⟨n, o, .inl z⟩
  · rcases getElem?_set_of h with ⟨_, z⟩ | ⟨n, z⟩
    · cases z
    · exact ⟨n, o, .inr z⟩
/-- an own list of slot i stands still from here on -/
theorem EnvOk.still {i : Nat} {o : OC} {a : Addr} (E : EnvOk K H O σ ρ) (h : ρ[i]? = some (.own o)) (hs : σ[i]? = some (some (.ref a))) :
    EnvOk K H (fun b => O b ∧ b ≠ a) σ (ρ.set i (.v o.toD)) := by
  have m : Mv H O H (fun b => O b ∧ b ≠ a) := .of_sub fun _ z => z.1
  obtain ⟨s, es, a', ea, oa, ha⟩ := E.slot i _ h
  rw [hs] at es
  cases es
  cases ea
  refine ⟨by rw [List.length_set]; exact E.len, fun j c hj => ?_, fun j k b h1 h2 e1 e2 => E.dis j k b (Ow.of_set_v h1).2 (Ow.of_set_v h2).2 e1 e2, fun b z => E.tr b z.1⟩
  rcases getElem?_set_of hj with ⟨e, z⟩ | ⟨n, z⟩
  · subst e z
    exact ⟨_, hs, _, rfl, (ha.mv m rfl).fz fun z => z.2 rfl⟩
  · obtain ⟨s, es, q⟩ := E.slot j c z
    refine ⟨s, es, ?_⟩
    cases c with
    | un => exact True.intro
    | v d =>
      obtain ⟨y, e1, e2⟩ := q
      exact ⟨y, e1, Fz.mv m d y e2⟩
    | own o' =>
      obtain ⟨b, e1, e2, e3⟩ := q
      subst e1
      exact ⟨b, rfl, ⟨e2, fun w => n (E.dis j i a ⟨o', .inl z⟩ ⟨o, .inl h⟩ (by rw [es, w]) hs)⟩, e3.mv m rfl⟩
    | brw o' =>
      obtain ⟨b, e1, e2, e3⟩ := q
      subst e1
      exact ⟨b, rfl, ⟨e2, fun w => n (E.dis j i a ⟨o', .inr z⟩ ⟨o, .inl h⟩ (by rw [es, w]) hs)⟩, e3.mv m rfl⟩
    | ob C fs =>
      obtain ⟨y, e1, e2⟩ := q
      exact ⟨y, e1, e2.mv m⟩
theorem EnvOk.less {a : Addr} (E : EnvOk K H O σ ρ) (n : ¬ Ed σ ρ a) : EnvOk K H (fun b => O b ∧ b ≠ a) σ ρ := by
  have m : Mv H O H (fun b => O b ∧ b ≠ a) := .of_sub fun _ z => z.1
  refine ⟨E.len, fun j c z => ?_, E.dis, fun b z => E.tr b z.1⟩
  obtain ⟨s, es, q⟩ := E.slot j c z
  refine ⟨s, es, ?_⟩
  cases c with
  | un => exact True.intro
  | v d =>
    obtain ⟨y, e1, e2⟩ := q
    exact ⟨y, e1, Fz.mv m d y e2⟩
  | own o' =>
    obtain ⟨b, e1, e2, e3⟩ := q
    subst e1
    exact ⟨b, rfl, ⟨e2, fun w => n ⟨j, ⟨o', .inl z⟩, by rw [es, w]⟩⟩, e3.mv m rfl⟩
  | brw o' =>
    obtain ⟨b, e1, e2, e3⟩ := q
    subst e1
    exact ⟨b, rfl, ⟨e2, fun w => n ⟨j, ⟨o', .inr z⟩, by rw [es, w]⟩⟩, e3.mv m rfl⟩
  | ob C fs =>
    obtain ⟨y, e1, e2⟩ := q
    exact ⟨y, e1, e2.mv m⟩
/-- freezing what was handed on: E0 .. the state ahead -/
theorem frz_ok {ρ0 : Ev} {O0 : Addr → Prop} {σ0 : L2.St} (tr : ∀ a, O0 a → H0 a ≠ none) (E : EnvOk K H O σ ρ) (S : Stp σ0 ρ0 O0 H0 σ ρ O H) (h : RvOk K H0 H O σ ρ x r) (e : frz ρ r = some (d, ρ')) :
    ∃ O', EnvOk K H O' σ ρ' ∧ Stp σ0 ρ0 O0 H0 σ ρ' O' H ∧ Fz K H O' x d := by
  cases r with
  | d y =>
    cases (show some (y, ρ) = some (d, ρ') from e)
    exact ⟨O, E, S, h⟩
  | nl o =>
    cases (show some (o.toD, ρ) = some (d, ρ') from e)
    obtain ⟨a, e1, h1, h2, h3, h4⟩ := h
    subst e1
    have m : Mv H O H (fun b => O b ∧ b ≠ a) := .of_sub fun _ z => z.1
    exact ⟨_, E.less h2, ⟨S.keep, S.there, fun b z => S.sub b z.1, fun b z n => ⟨S.stay b z n, fun w => tr b z (w ▸ h3)⟩, S.env, S.bst⟩, (h4.mv m rfl).fz fun z => z.2 rfl⟩
  | al i =>
    have h : σ[i]? = some (some x) := h
    unfold frz at e
    dsimp only at e
    split at e
    · rename_i y q
      cases e
      obtain ⟨s, es, z, ez, hz⟩ := E.slot i _ q
      rw [h] at es
      cases es
      cases ez
      exact ⟨O, E, S, hz⟩
    · rename_i o q
      cases e
      obtain ⟨s, es, a, ea, oa, hz⟩ := E.slot i _ q
      rw [h] at es
      cases es
      cases ea
      have m : Mv H O H (fun b => O b ∧ b ≠ a) := .of_sub fun _ z => z.1
      have eda : Ed σ ρ a := ⟨i, ⟨o, .inl q⟩, h⟩
      have es : ∀ b, Ed σ (ρ.set i (.v o.toD)) b → Ed σ ρ b := fun b ⟨j, h1, h2⟩ => ⟨j, (Ow.of_set_v h1).2, h2⟩
      refine ⟨_, E.still q h, ⟨S.keep, S.there, fun b z => S.sub b z.1, fun b z n => ⟨S.stay b z n, fun w => ?_⟩, fun b z => S.env b (es b z), fun j o' hj => ?_⟩, (hz.mv m rfl).fz fun z => z.2 rfl⟩
      · subst w
        exact (S.env b eda).elim n fun w => tr b z w
      · obtain ⟨⟨o1, z1⟩, z2⟩ := S.bst j o' hj
        refine ⟨⟨o1, ?_⟩, z2⟩
        rw [List.getElem?_set_ne]
        · exact z1
        · rintro rfl
          rw [q] at z1
          cases z1
    · cases e
  | ob C fs => cases e
end

/-! ### judgements -/
/-- an expression by its function over the slots -/
def tE (K : PySem.W.Frag) (m : ME) : TE := fun σ H Q => ∃ ρ O r ρ', EnvOk K H O σ ρ ∧ m ρ = some (r, ρ') ∧
  ∀ x H' O', EnvOk K H' O' σ ρ' → Stp σ ρ O H σ ρ' O' H' → RvOk K H H' O' σ ρ' x r → Q x H'
/-- .. given away -/
def tD1 (K : PySem.W.Frag) (m : MD) : TE := fun σ H Q => ∃ ρ O d ρ', EnvOk K H O σ ρ ∧ m ρ = some (d, ρ') ∧
  ∀ x H' O', EnvOk K H' O' σ ρ' → Stp σ ρ O H σ ρ' O' H' → Fz K H' O' x d → Q x H'
def tT (K : PySem.W.Frag) (m : MT) : TT := fun σ H Q => ∃ ρ O b ρ', EnvOk K H O σ ρ ∧ m ρ = some (b, ρ') ∧
  ∀ H' O', EnvOk K H' O' σ ρ' → Stp σ ρ O H σ ρ' O' H' → Q b H'
/-- several, given away -/
def tDs (K : PySem.W.Frag) (m : MDs) : TA := fun σ H Q => ∃ ρ O ds ρ', EnvOk K H O σ ρ ∧ m ρ = some (ds, ρ') ∧
  ∀ xs H' O', EnvOk K H' O' σ ρ' → Stp σ ρ O H σ ρ' O' H' → FzAll K H' O' xs ds → Q xs H'
def tS (K : PySem.W.Frag) (m : MS) : TS := fun D σ H => ∃ ρ O o ρ', EnvOk K H O σ ρ ∧ m ρ = some (o, ρ') ∧
  ∀ σ' H' O', EnvOk K H' O' σ' ρ' → Stp σ ρ O H σ' ρ' O' H' → match o with
    | .nx => D.nx σ' H'
    | .bk => D.bk σ' H'
    | .ct => D.ct σ' H'
    | .rt r => ∀ x, RvOk K H H' O' σ' ρ' x r → D.rt x H'
/-- a target; vs: the slots it may store -/
def tGF (K : PySem.W.Frag) (F : Hp → (Addr → Prop) → V → D → Prop) (vs : List Nat) (g : MG) : TG := fun v σ H Q => ∃ ρ O d ρ', EnvOk K H O σ ρ ∧ F H O v d ∧ g d ρ = some ρ' ∧
  ∀ σ' H' O', EnvOk K H' O' σ' ρ' → Stp σ ρ O H σ' ρ' O' H' → (σ'.length = σ.length ∧ ∀ j : Nat, j ∉ vs → σ'[j]? = σ[j]?) → Q σ' H'
abbrev tG (K : PySem.W.Frag) (vs : List Nat) (g : MG) : TG := tGF K (Fz K) vs g
/-- what a loop walks: P says that the source stands -/
structure ISrc (K : PySem.W.Frag) (F : Hp → (Addr → Prop) → V → D → Prop) (J : It) (P : Hp → (Addr → Prop) → Prop) (items : List D) : Prop where
  stop : ∀ i H O, P H O → items.length ≤ i → J.stop i H
  go : ∀ i H O, P H O → i < items.length → J.go i H
  yld : ∀ i H O x H', P H O → (∀ a, O a → H a ≠ none) → i < items.length → J.yld i H x H' → (∀ a o, H a = some o → H' a = some o) ∧ ∃ d, items[i]? = some d ∧ F H' O x d
  mv : ∀ H O H' O', P H O → Mv H O H' O' → P H' O'
def tIF (K : PySem.W.Frag) (F : Hp → (Addr → Prop) → V → D → Prop) (m : MDs) : TI := fun σ H R => ∃ ρ O items ρ', EnvOk K H O σ ρ ∧ m ρ = some (items, ρ') ∧
  ∀ J P H' O', EnvOk K H' O' σ ρ' → Stp σ ρ O H σ ρ' O' H' → ISrc K F J P items → P H' O' → R J H'
abbrev tI (K : PySem.W.Frag) (m : MDs) : TI := tIF K (Fz K) m

theorem PE.of {X : Cx} {e : Expr} {t t' : TE} (h : PE X e t) (i : ∀ σ H Q, t' σ H Q → t σ H Q) : PE X e t' := ⟨fun pins s σ H Q I q => h.run pins s σ H Q I (i σ H Q q)⟩
theorem PT.of {X : Cx} {e : Expr} {t t' : TT} (h : PT X e t) (i : ∀ σ H Q, t' σ H Q → t σ H Q) : PT X e t' := ⟨fun pins s σ H Q I q => h.run pins s σ H Q I (i σ H Q q)⟩
theorem PA.of {X : Cx} {e : List Expr} {t t' : TA} (h : PA X e t) (i : ∀ σ H Q, t' σ H Q → t σ H Q) : PA X e t' := ⟨fun pos pins s σ H Q I q => h.run pos pins s σ H Q I (i σ H Q q)⟩
theorem PS.of {X : Cx} {e : Stmt} {t t' : TS} (h : PS X e t) (i : ∀ σ H D, t' D σ H → t D σ H) : PS X e t' := ⟨fun pins s σ H D I q => h.run pins s σ H D I (i σ H D q)⟩
theorem PSs.of {X : Cx} {e : List Stmt} {t t' : TS} (h : PSs X e t) (i : ∀ σ H D, t' D σ H → t D σ H) : PSs X e t' := ⟨fun pins s σ H D I q => h.run pins s σ H D I (i σ H D q)⟩
theorem PG.of {X : Cx} {e : Expr} {t t' : TG} (h : PG X e t) (i : ∀ v σ H Q, t' v σ H Q → t v σ H Q) : PG X e t' := ⟨fun pins s σ H v u Q I r q => h.run pins s σ H v u Q I r (i v σ H Q q)⟩
theorem PI.of {X : Cx} {tg e : Expr} {t t' : TI} (h : PI X tg e t) (i : ∀ σ H Q, t' σ H Q → t σ H Q) : PI X tg e t' := ⟨fun pins s σ H Q I q => h.run pins s σ H Q I (i σ H Q q)⟩

section
variable {X : Cx} {e a b : Expr} {es : List Expr} {m ma mb : ME} {pos : Pos}
/-- given away -/
def mF (m : ME) : MD := fun ρ => (m ρ).bind fun p => frz p.2 p.1
theorem pd_of (h : PE X e (tE X.K m)) : PE X e (tD1 X.K (mF m)) := by
  refine PE.of h fun σ H Q ⟨ρ, O, d, ρ', E, e1, k⟩ => ?_
  obtain ⟨⟨r, ρ1⟩, e2, e3⟩ := Option.bind_eq_some_iff.mp e1
  refine ⟨ρ, O, r, ρ1, E, e2, fun x H' O' E' S R => ?_⟩
  obtain ⟨O2, E2, S2, F⟩ := frz_ok E.tr E' S R e3
  exact k x H' O2 E2 S2 F
/-- data as what is handed on -/
def mOf (m : MD) : ME := fun ρ => (m ρ).map fun p => (.d p.1, p.2)
def mDsNil : MDs := fun ρ => some ([], ρ)
def mDsCons (m : MD) (ms : MDs) : MDs := fun ρ => (m ρ).bind fun p => (ms p.2).bind fun q => some (p.1 :: q.1, q.2)
theorem pds_nil : PA X [] (tDs X.K mDsNil) := by
  refine PA.of pa_nil fun σ H Q ⟨ρ, O, ds, ρ', E, e1, k⟩ => ?_
  cases e1
  exact k [] H O E .refl .nil
theorem pds_cons {md : MD} {ms : MDs} (ha : PE X e (tD1 X.K md)) (hr : PA X es (tDs X.K ms)) (hs : starEach (e :: es) X.env = (false, eval e X.env) :: starEach es X.env := by rfl) : PA X (e :: es) (tDs X.K (mDsCons md ms)) := by
  refine PA.of (pa_cons ha hr hs) fun σ H Q ⟨ρ, O, ds, ρ', E, e1, k⟩ => ?_
  obtain ⟨⟨d, ρ1⟩, e2, e3⟩ := Option.bind_eq_some_iff.mp e1
  obtain ⟨⟨ds1, ρ2⟩, e4, e5⟩ := Option.bind_eq_some_iff.mp e3
  cases e5
  refine ⟨ρ, O, d, ρ1, E, e2, fun x H1 O1 E1 S1 F1 => ⟨ρ1, O1, ds1, ρ2, E1, e4, fun xs H2 O2 E2 S2 F2 => ?_⟩⟩
  exact k (x :: xs) H2 O2 E2 (Stp.trans E.tr S1 S2) (.cons (Fz.mv (S2.mv E1) d x F1) F2)

/-! ### names, constants -/
def mVar (i : Nat) : ME := fun ρ => match ρ[i]? with
  | some (.v d) => some (.d d, ρ)
  | some (.own _) => some (.al i, ρ)
  | some (.brw _) => some (.al i, ρ)
  | some (.ob C fs) => some (.ob C fs, ρ)
  | _ => none
theorem p_var {x : Str} (i : Nat) (hN : X.N[i]? = some x := by rfl) (hv : Vis X.env.scope x := by first | exact Or.inl rfl | exact Or.inr (Or.inl rfl) | exact Or.inr (Or.inr rfl)) (hd : (x == ("__debug__" : Str)) = false := by decide)
    (hcd : (x == ("__classdict__" : Str)) = false := by decide) : PE X (.Name x pos) (tE X.K (mVar i)) := by
  refine PE.of (pe_var hN hv hd hcd) fun σ H Q ⟨ρ, O, r, ρ', E, e1, k⟩ => ?_
  unfold mVar at e1
  split at e1
  · rename_i d q
    cases e1
    obtain ⟨s, es, x, ex, f⟩ := E.slot i _ q
    subst ex
    exact ⟨x, es, k x H O E .refl f⟩
  · rename_i o q
    cases e1
    obtain ⟨s, es, a, ex, f⟩ := E.slot i _ q
    subst ex
    exact ⟨_, es, k _ H O E .refl es⟩
  · rename_i o q
    cases e1
    obtain ⟨s, es, a, ex, f⟩ := E.slot i _ q
    subst ex
    exact ⟨_, es, k _ H O E .refl es⟩
  · rename_i C fs q
    cases e1
    obtain ⟨s, es, x, ex, f⟩ := E.slot i _ q
    subst ex
    exact ⟨x, es, k x H O E .refl f⟩
  · cases e1
def mC (d : D) : ME := fun ρ => some (.d d, ρ)
theorem p_c {v : V} {d : D} (h : PE X e (tC v)) (f : ∀ H O, Fz X.K H O v d) : PE X e (tE X.K (mC d)) := by
  refine PE.of h fun σ H Q ⟨ρ, O, r, ρ', E, e1, k⟩ => ?_
  cases e1
  exact k v H O E .refl (f H O)
theorem p_int {i j} : PE X (.Constant (.int i) j pos) (tE X.K (mC (.int i))) := p_c pe_int fun _ _ => .int i
theorem p_bl {i j} : PE X (.Constant (.bool i) j pos) (tE X.K (mC (.bool i))) := p_c pe_bl fun _ _ => .bl i
theorem p_non {j} : PE X (.Constant .none j pos) (tE X.K (mC .none)) := p_c pe_non fun _ _ => .non
theorem p_str {x j} : PE X (.Constant (.str x) j pos) (tE X.K (mC (.str x))) := p_c pe_str fun _ _ => .str x
/-- a module's constant -/
theorem p_glob {x : Str} {v : V} {u : Value} {d : D} (hg : Gl X x) (hm : X.mg x = some u) (r : RelV v u) (f : ∀ H O, Fz X.K H O v d) (hd : (x == ("__debug__" : Str)) = false := by decide) : PE X (.Name x pos) (tE X.K (mC d)) := p_c (pe_glob hg hm r hd) f
end

/-! ### what an operation on data hands on -/
structure ResOk (K : PySem.W.Frag) (H : Hp) (O : Addr → Prop) (H' : Hp) (O' : Addr → Prop) (z : V) (r : RV) : Prop where
  keep : ∀ a o, H a = some o → H' a = some o
  sub : ∀ a, O' a → O a ∨ H a = none
  more : ∀ a, O a → O' a
  tr : ∀ a, O' a → H' a ≠ none
  res : match r with
    | .d d => Fz K H' O' z d
    | .nl o => ∃ a, z = .ref a ∧ O' a ∧ H a = none ∧ OcAt K H' O' a o
    | .al _ => False
    | .ob C fs => ObOk K H' O' z C fs
section
variable {K : PySem.W.Frag} {H H' H0 : Hp} {O O' : Addr → Prop} {σ : L2.St} {ρ : Ev} {z : V} {r : RV}
theorem EnvOk.grow (E : EnvOk K H O σ ρ) (keep : ∀ a o, H a = some o → H' a = some o) (sub : ∀ a, O' a → O a ∨ H a = none) (more : ∀ a, O a → O' a) (tr : ∀ a, O' a → H' a ≠ none) : EnvOk K H' O' σ ρ := by
  have m : Mv H O H' O' := ⟨fun a o h _ => keep a o h, sub⟩
  refine ⟨E.len, fun j c z => ?_, E.dis, tr⟩
  obtain ⟨s, es, q⟩ := E.slot j c z
  refine ⟨s, es, ?_⟩
  have same : ∀ {a : Addr} {o : OC}, OcAt K H O a o → H' a = H a := fun {a o} h => by
    cases q : H a with
    | none => exact absurd q h.there
    | some u => exact keep a u q
  cases c with
  | un => exact True.intro
  | v d =>
    obtain ⟨y, e1, e2⟩ := q
    exact ⟨y, e1, Fz.mv m d y e2⟩
  | own o' =>
    obtain ⟨b, e1, e2, e3⟩ := q
    exact ⟨b, e1, more b e2, e3.mv m (same e3)⟩
  | brw o' =>
    obtain ⟨b, e1, e2, e3⟩ := q
    exact ⟨b, e1, more b e2, e3.mv m (same e3)⟩
  | ob C fs =>
    obtain ⟨y, e1, e2⟩ := q
    exact ⟨y, e1, e2.mv m⟩
theorem Stp.grow (keep : ∀ a o, H a = some o → H' a = some o) (sub : ∀ a, O' a → O a ∨ H a = none) (more : ∀ a, O a → O' a) : Stp σ ρ O H σ ρ O' H' :=
  ⟨fun a o h _ => keep a o h, fun a h => by
    cases q : H a with
    | none => exact absurd q h
    | some u => rw [keep a u q]; exact nofun, sub, fun a h _ => more a h, fun _ h => .inl h, fun i o h => ⟨⟨o, h⟩, rfl⟩⟩
theorem ResOk.done (R : ResOk K H O H' O' z r) (E : EnvOk K H O σ ρ) : EnvOk K H' O' σ ρ ∧ Stp σ ρ O H σ ρ O' H' ∧ RvOk K H H' O' σ ρ z r := by
  refine ⟨E.grow R.keep R.sub R.more R.tr, .grow R.keep R.sub R.more, ?_⟩
  have q := R.res
  cases r with
  | d d => exact q
  | al i => exact q.elim
  | nl o =>
    obtain ⟨a, e1, e2, e3, e4⟩ := q
    exact ⟨a, e1, e2, fun w => E.tr a (E.ed w) e3, e3, e4⟩
  | ob C fs => exact q
/-- nothing new: data -/
theorem ResOk.same (tr : ∀ a, O a → H a ≠ none) {d : D} (f : Fz K H O z d) : ResOk K H O H O z (.d d) := ⟨fun _ _ h => h, fun _ h => .inl h, fun _ h => h, tr, f⟩
/-- a new tuple -/
theorem ResOk.tup (tr : ∀ a, O a → H a ≠ none) {p : Addr} {o : Obj} {xs : List V} {ds : List D} (n : H p = none) (od : o.dict = none) (f : FzAll K H O xs ds) : ResOk K H O (upd H p (.frz o (.tup xs))) O (.ref p) (.d (.tuple ds)) := by
  have keep : ∀ a u, H a = some u → upd H p (.frz o (.tup xs)) a = some u := fun a u h => by rw [upd_ne (ne_of_none h n)]; exact h
  have m : Mv H O (upd H p (.frz o (.tup xs))) O := ⟨fun a u h _ => keep a u h, fun _ h => .inl h⟩
  refine ⟨keep, fun _ h => .inl h, fun _ h => h, fun a h => ?_, ?_⟩
  · cases q : H a with
    | none => exact absurd q (tr a h)
    | some u => rw [keep a u q]; exact nofun
  · exact .tup (.inl ⟨o, upd_same, od, fun z => tr p z n⟩) (FzAll.mv m ds xs f)
/-- a new list -/
theorem ResOk.lst (tr : ∀ a, O a → H a ≠ none) {p : Addr} {xs : List V} {ds : List D} (n : H p = none) (f : FzAll K H O xs ds) : ResOk K H O (upd H p (.lst xs)) (fun a => O a ∨ a = p) (.ref p) (.nl (.L ds)) := by
  have keep : ∀ a o, H a = some o → upd H p (.lst xs) a = some o := fun a o h => by rw [upd_ne (ne_of_none h n)]; exact h
  have sub : ∀ a, O a ∨ a = p → O a ∨ H a = none := fun a h => h.imp id fun e => by rw [e]; exact n
  have m : Mv H O (upd H p (.lst xs)) (fun a => O a ∨ a = p) := ⟨fun a o h _ => keep a o h, sub⟩
  refine ⟨keep, sub, fun _ h => .inl h, fun a h => ?_, p, rfl, .inr rfl, n, xs, upd_same, FzAll.mv m ds xs f⟩
  rcases h with h | h
  · cases q : H a with
    | none => exact absurd q (tr a h)
    | some u => rw [keep a u q]; exact nofun
  · rw [h, upd_same]; exact nofun
end

/-- a two-place operation on data -/
def Op2 (K : PySem.W.Frag) (r : R2) (g : D → D → Option RV) : Prop :=
  ∀ (H : Hp) (O : Addr → Prop) (x y : V) (d e : D) (z : RV) (Q : VK), (∀ a, O a → H a ≠ none) → Lk K H O x d → Lk K H O y e → g d e = some z → (∀ v H' O', ResOk K H O H' O' v z → Q v H') → r x y H Q
def Op1 (K : PySem.W.Frag) (r : V → Hp → VK → Prop) (g : D → Option RV) : Prop :=
  ∀ (H : Hp) (O : Addr → Prop) (x : V) (d : D) (z : RV) (Q : VK), (∀ a, O a → H a ≠ none) → Lk K H O x d → g d = some z → (∀ v H' O', ResOk K H O H' O' v z → Q v H') → r x H Q
def LkAll (K : PySem.W.Frag) (H : Hp) (O : Addr → Prop) : List V → List D → Prop := Paired (Lk K H O)
def OpN (K : PySem.W.Frag) (r : List V → Hp → VK → Prop) (g : List D → Option RV) : Prop :=
  ∀ (H : Hp) (O : Addr → Prop) (xs : List V) (ds : List D) (z : RV) (Q : VK), (∀ a, O a → H a ≠ none) → LkAll K H O xs ds → g ds = some z → (∀ v H' O', ResOk K H O H' O' v z → Q v H') → r xs H Q
section
variable {X : Cx} {e a b c : Expr} {es : List Expr} {m ma mb mc : ME} {pos : Pos}
/-- two expressions in a row, looked at -/
def m2 (g : D → D → Option RV) (ma mb : ME) : ME := fun ρ => (ma ρ).bind fun p => (mb p.2).bind fun q => (look q.2 p.1).bind fun d => (look q.2 q.1).bind fun e => (g d e).map fun z => (z, q.2)
def m1 (g : D → Option RV) (ma : ME) : ME := fun ρ => (ma ρ).bind fun p => (look p.2 p.1).bind fun d => (g d).map fun z => (z, p.2)
theorem t2_ok {r : R2} {g : D → D → Option RV} (hg : Op2 X.K r g) : ∀ σ H Q, tE X.K (m2 g ma mb) σ H Q → tOp r (tE X.K ma) (tE X.K mb) σ H Q := by
  intro σ H Q ⟨ρ, O, z, ρ', E, e1, k⟩
  obtain ⟨⟨r1, ρ1⟩, h1, e1⟩ := Option.bind_eq_some_iff.mp e1
  obtain ⟨⟨r2, ρ2⟩, h2, e1⟩ := Option.bind_eq_some_iff.mp e1
  obtain ⟨d, h3, e1⟩ := Option.bind_eq_some_iff.mp e1
  obtain ⟨e, h4, e1⟩ := Option.bind_eq_some_iff.mp e1
  obtain ⟨z', h5, e1⟩ := Option.map_eq_some_iff.mp e1
  cases e1
  refine ⟨ρ, O, r1, ρ1, E, h1, fun x H1 O1 E1 S1 R1 => ⟨ρ1, O1, r2, ρ2, E1, h2, fun y H2 O2 E2 S2 R2 => ?_⟩⟩
  refine hg H2 O2 x y d e z Q E2.tr (look_ok E2 (R1.stp E1 S2) h3) (look_ok E2 R2 h4) h5 fun v H3 O3 R3 => ?_
  obtain ⟨E3, S3, V3⟩ := R3.done E2
  exact k v H3 O3 E3 (Stp.trans E.tr S1 (Stp.trans E1.tr S2 S3)) (V3.back fun a h => S2.there a (S1.there a h))
theorem p_bin {op : Operator} {r : R2} {g : D → D → Option RV} (ho : OpR X (binaryOp op) r) (hg : Op2 X.K r g) (ha : PE X a (tE X.K ma)) (hb : PE X b (tE X.K mb)) : PE X (.BinOp a op b pos) (tE X.K (m2 g ma mb)) :=
  PE.of (pe_op ho ha hb) (t2_ok hg)
theorem p_cmp {op : CmpOp} {r : R2} {g : D → D → Option RV} (ho : OpR X (compareOp op) r) (hg : Op2 X.K r g) (ha : PE X a (tE X.K ma)) (hb : PE X b (tE X.K mb)) (hm : behindInMarks op b = false) : PE X (.Compare a [op] [b] pos) (tE X.K (m2 g ma mb)) :=
  PE.of (pe_cmpR ho ha hb hm) (t2_ok hg)
theorem p_un {op : UnaryOp} {r : V → Hp → VK → Prop} {g : D → Option RV} (ho : UnR X (unaryOp op) r) (hg : Op1 X.K r g) (ha : PE X a (tE X.K ma)) : PE X (.UnaryOp op a pos) (tE X.K (m1 g ma)) := by
  refine PE.of (pe_un ho ha) fun σ H Q ⟨ρ, O, z, ρ', E, e1, k⟩ => ?_
  obtain ⟨⟨r1, ρ1⟩, h1, e1⟩ := Option.bind_eq_some_iff.mp e1
  obtain ⟨d, h3, e1⟩ := Option.bind_eq_some_iff.mp e1
  obtain ⟨z', h5, e1⟩ := Option.map_eq_some_iff.mp e1
  cases e1
  refine ⟨ρ, O, r1, ρ1, E, h1, fun x H1 O1 E1 S1 R1 => ?_⟩
  refine hg H1 O1 x d z Q E1.tr (look_ok E1 R1 h3) h5 fun v H3 O3 R3 => ?_
  obtain ⟨E3, S3, V3⟩ := R3.done E1
  exact k v H3 O3 E3 (Stp.trans E.tr S1 S3) (V3.back fun a h => S1.there a h)
end
end PL

/-! PLT: tuples that are known to their object. -/
namespace PL
open PySem PySem.Spec PyProof.Rows L2
variable [TheW]
section
variable {X : Cx} {es : List Expr} {t : TA} {pos : Pos}
/-- a new tuple's object is known -/
theorem Inv.tupF {pins : List (Addr × Obj)} {σ : L2.St} {H : Hp} {s : Shared} {xs : List V} {us : List Value} (I : Inv X pins σ H s) (r : Vals xs us) (hz : xs.length ≤ sizeLine) :
    Inv X pins σ (upd H s.heap.objs.size (.frz { cls := .type "tuple", data := .seq us.toArray } (.tup xs))) { s with heap := s.heap.push { cls := .type "tuple", data := .seq us.toArray } } := by
  have new : (s.heap.push { cls := .type "tuple", data := .seq us.toArray }).get? s.heap.objs.size = some { cls := .type "tuple", data := .seq us.toArray } := Heap.get?_push_size _ rfl
  exact I.laid (t' := s.toks) (fun b u e => Heap.get?_push_of_some _ e) (Nat.le_refl _) ⟨new, hz, us, r, _, new, rfl, _, rfl⟩
def tTupF (t : TA) : TE := fun σ H Q => t σ H fun xs H1 => xs.length ≤ sizeLine ∧ ∀ p o, H1 p = none → o.dict = none → Q (.ref p) (upd H1 p (.frz o (.tup xs)))
theorem pe_tupF {x1} (h : PA X es t) : PE X (.Tuple es x1 pos) (tTupF t) := by
  constructor
  intro pins s σ H Q I hq
  refine wpAny_Tuple_spliced (thn (h.run pos pins s σ H _ I hq) ?_)
  rintro us s1 ⟨xs, H1, I1, r, z, q⟩
  refine ⟨r.length ▸ z, .ref s1.heap.objs.size, _, Inv.tupF I1 r z, rfl, q _ _ (I1.hok.fresh (Nat.le_refl _)) rfl⟩
/-- t + u, any -/
def rCatF (K : PySem.W.Frag) : R2 := fun x y H Q => ∃ a b xs ys, x = .ref a ∧ y = .ref b ∧ SqT K H a xs ∧ SqT K H b ys ∧ xs.length + ys.length ≤ sizeLine ∧
  (xs = [] → Q (.ref b) H) ∧ (xs ≠ [] → ys = [] → Q (.ref a) H) ∧ (xs ≠ [] → ys ≠ [] → ∀ p o, H p = none → o.dict = none → Q (.ref p) (upd H p (.frz o (.tup (xs ++ ys)))))
theorem op_catF : OpR X (binaryOp .Add) (rCatF X.K) := by
  rintro pins s σ H x y v u Q I rx ry ⟨a, b, xs, ys, rfl, rfl, ha, hb, hz, q0, q1, q2⟩
  by_cases hx : xs = []
  · exact op_catA pins s σ H _ _ v u Q I rx ry ⟨a, b, xs, ys, rfl, rfl, ha, hb, hz, q0, q1, fun z => absurd hx z⟩
  · by_cases hy : ys = []
    · exact op_catA pins s σ H _ _ v u Q I rx ry ⟨a, b, xs, ys, rfl, rfl, ha, hb, hz, q0, q1, fun _ z => absurd hy z⟩
    · cases rx
      cases ry
      obtain ⟨us, r1, p1, _⟩ := I.tuple ha
      obtain ⟨ws, r2, p2, _⟩ := I.tuple hb
      have e1 := r1.length
      have e2 := r2.length
      obtain ⟨⟨cls, dd, data, sl⟩, ho, hc, n, hd⟩ := p1
      obtain ⟨⟨cls2, dd2, data2, sl2⟩, ho2, hc2, n2, hd2⟩ := p2
      dsimp only at hc hd hc2 hd2
      subst hc; subst hd; subst hc2; subst hd2
      have nu : ¬ us.toArray.isEmpty = true := fun z => by
        have : us = [] := by simpa using z
        subst this
        exact hx (List.length_eq_zero_iff.mp e1)
      have nw : ¬ ws.toArray.isEmpty = true := fun z => by
        have : ws = [] := by simpa using z
        subst this
        exact hy (List.length_eq_zero_iff.mp e2)
      refine concat_meets ⟨_, ho, rfl⟩ ⟨_, ho2, rfl⟩ noFill_tuple_add seq_tuple_add PySem.F.slot_tuple_add PySem.F.entry_tuple_add (PySem.F.args_tuple_add_2 _ _) (tuple_addW2 a b us.toArray ws.toArray n n2 dd dd2 sl sl2 nu nw (by rw [List.size_toArray, List.size_toArray]; omega)) ⟨ho, ho2, ?_⟩
      rw [List.append_toArray]
      exact ⟨.ref s.heap.objs.size, _, Inv.tupF I (r1.append r2) (by rw [List.length_append]; exact hz), rfl, q2 hx hy _ _ (I.hok.fresh (Nat.le_refl _)) rfl⟩
/-- t[lo:hi] -/
def rSlF (K : PySem.W.Frag) : V → Option Int → Option Int → Hp → VK → Prop := fun x lo hi H Q => ∃ a xs, x = .ref a ∧ SqT K H a xs ∧
  (HT.sIx xs.length 0 lo = 0 ∧ HT.sIx xs.length xs.length hi = xs.length → Q (.ref a) H) ∧ (¬ (HT.sIx xs.length 0 lo = 0 ∧ HT.sIx xs.length xs.length hi = xs.length) → ∀ p o, H p = none → o.dict = none → Q (.ref p) (upd H p (.frz o (.tup (cutV xs lo hi)))))
theorem sl_tupF : SlR X (rSlF X.K) := by
  rintro pins s σ H x v vl vu lo hi sl Q I rx hs pl pu ⟨a, xs, rfl, hx, q1, q2⟩
  by_cases hw : HT.sIx xs.length 0 lo = 0 ∧ HT.sIx xs.length xs.length hi = xs.length
  · exact sl_tupA pins s σ H _ v vl vu lo hi sl Q I rx hs pl pu ⟨a, xs, rfl, hx, q1, fun z => absurd hw z⟩
  · cases rx
    obtain ⟨us, r, ht, hz⟩ := I.tuple hx
    have hlen : us.toArray.size = xs.length := by
      rw [List.size_toArray, r.length]
    refine ⟨"tuple", _, PyProof.Rows.slot_tuple_getitem.lookup, ht.typeIs, HT.getItem_tuple_cut ht hs pl pu (hlen ▸ hw) ?_ (hlen ▸ hz)⟩
    rw [hlen]
    have rc : Vals (cutV xs lo hi) ((us.drop (HT.sIx xs.length 0 lo)).take (HT.sIx xs.length xs.length hi - HT.sIx xs.length 0 lo)) := (r.drop _).take _
    exact ⟨.ref s.heap.objs.size, _, Inv.tupF I rc (Nat.le_trans (cutV_length xs lo hi) hz), rfl, q2 hw _ _ (I.hok.fresh (Nat.le_refl _)) rfl⟩
/-- tuple(x) of a list or a tuple -/
def rTupleF (K : PySem.W.Frag) : List V → Hp → VK → Prop := fun xs H Q => ∃ p ys, xs = [.ref p] ∧ ((SqL K H p ys ∧ ∀ l o, H l = none → o.dict = none → Q (.ref l) (upd H l (.frz o (.tup ys)))) ∨ (SqT K H p ys ∧ Q (.ref p) H))
theorem call_tupleF : CallR X (.type "tuple") (rTupleF X.K) := by
  rintro pins s σ H xs us Q I r ⟨p, ys, rfl, h⟩
  rcases h with ⟨hq, q⟩ | ⟨hq, q⟩
  · obtain ⟨u, rfl, rx⟩ := vals1 r
    cases rx
    obtain ⟨its, r', pl, hz⟩ := I.list hq
    have hlen := r'.length
    refine call_tuple_list pl.isList (fun h' kp => ?_) (by rw [List.size_toArray]; omega)
    have I1 : Inv X pins σ H { s with heap := h' } := I.kept (t' := s.toks) kp
    exact ⟨.ref h'.objs.size, _, Inv.tupF I1 r' hz, rfl, q _ _ (I1.hok.fresh (Nat.le_refl _)) rfl⟩
  · exact call_tuple_of pins s σ H _ us Q I r ⟨p, ys, rfl, .inr ⟨hq, q⟩⟩
end
end PL

/-! PD1: dicts whose keys are tuples, by their object. -/
namespace PL
open PySem PySem.Spec PyProof.Rows L2
variable [TheW]
theorem keyD_nk {d : D} {k : NestedKey} (h : keyD d = some k) : nkD d = some k ∧ k.depth ≤ 8 := by
  cases d with
  | int i => cases h; exact ⟨rfl, Nat.zero_le _⟩
  | str x => cases h; exact ⟨rfl, Nat.zero_le _⟩
  | tuple ds =>
    obtain ⟨ks, h1, h2⟩ := Option.bind_eq_some_iff.mp (show ((nkDs ds).bind fun ks => if (NestedKey.tup ks).depth ≤ 8 then some (NestedKey.tup ks) else none) = some k from h)
    split at h2
    · rename_i hd
      cases h2
      refine ⟨?_, hd⟩
      show (nkDs ds).map NestedKey.tup = _
      rw [h1]
      rfl
    · cases h2
  | _ => cases h
section
variable {X : Cx} {pins : List (Addr × Obj)} {σ : L2.St} {H : Hp} {O : Addr → Prop} {s : Shared}
mutual
/-- what stands for such data is such a key -/
theorem nk_is (I : Inv X pins σ H s) : ∀ (d : D) (x : V) (u : Value) (k : NestedKey), Fz X.K H O x d → RelV x u → nkD d = some k → NestedIs s.heap k u
  | .none, _, u, _, f, r, e => by
    cases f; cases e
    cases (show u = Value.none from r)
    exact .none
  | .int i, _, _, _, f, r, e => by
    cases f; cases e
    obtain ⟨t, rfl⟩ := r
    exact .int i t
  | .str z, _, _, _, f, r, e => by
    cases f; cases e
    obtain ⟨t, rfl⟩ := r
    exact .text z t
  | .bool b, _, _, _, _, _, e => by cases e
  | .list ds, _, _, _, _, _, e => by cases e
  | .dict kvs, _, _, _, _, _, e => by cases e
  | .tuple ds, _, u, _, f, r, e => by
    obtain ⟨ks, h1, rfl⟩ := Option.map_eq_some_iff.mp (show (nkDs ds).map NestedKey.tup = some _ from e)
    cases f with
    | @tup a xs _ h2 h3 =>
      cases (show u = Value.ref a from r)
      rcases h2 with ⟨o, h2, _, _⟩ | ⟨o, its, n, h4, h5, _, h6, _, h7⟩
      · obtain ⟨_, _, its, hv, o2, g1, g2, n, g3⟩ := (show ObjOk X.prog X.w H s.heap a (.frz o (.tup xs)) from I.hok a _ h2)
        exact .tup g1 g2 g3 (by simpa using nks_is I ds xs its ks h3 hv h1)
      · exact .tup (I.kIn a o h4) h5 h6 (nks_is I ds xs its.toList ks h3 h7 h1)
theorem nks_is (I : Inv X pins σ H s) : ∀ (ds : List D) (xs : List V) (us : List Value) (ks : List NestedKey), FzAll X.K H O xs ds → Vals xs us → nkDs ds = some ks → NestedAll s.heap ks us
  | [], _, _, _, f, r, e => by cases f; cases r; cases e; exact .nil
  | d :: ds, _, _, _, f, r, e => by
    obtain ⟨k, h1, h2⟩ := Option.bind_eq_some_iff.mp (show ((nkD d).bind fun k => (nkDs ds).map (k :: ·)) = some _ from e)
    obtain ⟨ks, h3, rfl⟩ := Option.map_eq_some_iff.mp h2
    cases f with
    | cons f1 f2 =>
      cases r with
      | cons r1 r2 => exact .cons (nk_is I d _ _ k f1 r1 h1) (nks_is I ds _ _ ks f2 r2 h3)
end
end
/-- y stands for the key k -/
def NkV (K : PySem.W.Frag) (H : Hp) (y : V) (k : NestedKey) : Prop := k.depth ≤ 8 ∧ ∃ (O : Addr → Prop) (d : D), Fz K H O y d ∧ nkD d = some k
def tget (es : List (NestedKey × Addr × V)) (k : NestedKey) : Option V := (es.find? fun e => decide (e.1 = k)).map (·.2.2)
def tput (es : List (NestedKey × Addr × V)) (k : NestedKey) (b : Addr) (v : V) : List (NestedKey × Addr × V) := if (tget es k).isSome then es.map fun e => if e.1 = k then (e.1, e.2.1, v) else e else es ++ [(k, b, v)]
abbrev TPr : List (NestedKey × Addr × V) → List (NestedKey × Addr × Value) → Prop := Paired fun (p : NestedKey × Addr × V) (q : NestedKey × Addr × Value) => p.1 = q.1 ∧ p.2.1 = q.2.1 ∧ RelV p.2.2 q.2.2
theorem tget_rel (k : NestedKey) : ∀ {es : List (NestedKey × Addr × V)} {xs : List (NestedKey × Addr × Value)}, TPr es xs → RelO (tget es k) ((atKey xs k).map (·.2))
  | _, _, .nil => True.intro
  | _, _, .cons (a := e) (b := x) ⟨h1, h2, h3⟩ t => by
    unfold tget atKey
    rw [List.find?_cons, List.find?_cons, h1]
    by_cases q : x.1 = k
    · simp only [q, decide_true]
      exact h3
    · simp only [q, decide_false]
      exact tget_rel k t
theorem tmap_rel (k : NestedKey) {v : V} {u : Value} (rv : RelV v u) : ∀ {es : List (NestedKey × Addr × V)} {xs : List (NestedKey × Addr × Value)}, TPr es xs → TPr (es.map fun e => if e.1 = k then (e.1, e.2.1, v) else e) (xs.map (putAt k u))
  | _, _, .nil => .nil
  | _, _, .cons (a := e) (b := x) ⟨h1, h2, h3⟩ t => by
    refine .cons ?_ (tmap_rel k rv t)
    unfold putAt
    dsimp only
    by_cases q : x.1 = k
    · rw [if_pos (h1.trans q), if_pos q]
      exact ⟨h1, h2, rv⟩
    · rw [if_neg (fun z => q (h1.symm.trans z)), if_neg q]
      exact ⟨h1, h2, h3⟩
theorem paired_app {α β : Type} {F : α → β → Prop} : ∀ {l₁ m₁ : List α} {l₂ m₂ : List β}, Paired F l₁ l₂ → Paired F m₁ m₂ → Paired F (l₁ ++ m₁) (l₂ ++ m₂)
  | _, _, _, _, .nil, h => h
  | _, _, _, _, .cons r t, h => .cons r (paired_app t h)
theorem tkeys : ∀ {es : List (NestedKey × Addr × V)} {xs : List (NestedKey × Addr × Value)}, TPr es xs → es.map (·.1) = xs.map (·.1)
  | _, _, .nil => rfl
  | _, _, .cons h t => by rw [List.map_cons, List.map_cons, h.1, tkeys t]
theorem tput_rel (k : NestedKey) {b : Addr} {v : V} {u : Value} (rv : RelV v u) {es : List (NestedKey × Addr × V)} {xs : List (NestedKey × Addr × Value)} (r : TPr es xs) : TPr (tput es k b v) (storedH xs k b u) := by
  have q := (tget_rel k r).isSome_eq
  rw [Option.isSome_map] at q
  unfold tput storedH
  rw [q]
  split
  · exact tmap_rel k rv r
  · exact paired_app r (.cons ⟨rfl, rfl, rv⟩ .nil)
theorem tput_len {es : List (NestedKey × Addr × V)} {k : NestedKey} {b : Addr} {v : V} : (tput es k b v).length ≤ es.length + 1 := by
  unfold tput
  split
  · rw [List.length_map]; omega
  · rw [List.length_append]; exact Nat.le_refl _
theorem pget' {α β : Type} {F : α → β → Prop} : ∀ {l₁ : List α} {l₂ : List β} {j : Nat} {x : β}, Paired F l₁ l₂ → l₂[j]? = some x → ∃ y, l₁[j]? = some y ∧ F y x
  | _, _, 0, _, .cons r _, e => by cases e; exact ⟨_, rfl, r⟩
  | _, _, j + 1, _, .cons _ t, e => pget' (j := j) t e
section
variable {X : Cx} {pins : List (Addr × Obj)} {σ : L2.St} {H : Hp} {s : Shared} {a : Addr} {es : List (NestedKey × Addr × V)} {k : NestedKey} {y : V} {u : Value} {A : Around} {E : Value → Shared → Prop}
theorem nkv_is (I : Inv X pins σ H s) (h : NkV X.K H y k) (r : RelV y u) : NestedIs s.heap k u := let ⟨_, _, _, f, e⟩ := h; nk_is I _ _ _ _ f r e
/-- the dict's table: its own entries, or none of a dict that is empty -/
def TTab (K : PySem.W.Frag) (H : Hp) (a : Addr) (es : List (NestedKey × Addr × V)) : Prop :=
  (H a = some (.ext (TDict TheW.w a es)) ∧ ∀ e ∈ es, NkV K H (.ref e.2.1) e.1) ∨ (es = [] ∧ Rd H a (.dK []))
theorem tt_of (hw : X.w = TheW.w) (I : Inv X pins σ H s) (t : TTab X.K H a es) : (a == sysModules) = false ∧ es.length ≤ sizeLine ∧ ∃ xs, TPr es xs ∧ s.heap.DictOfH (nestedKind X.prog X.w) a xs := by
  rcases t with ⟨e, hk⟩ | ⟨rfl, e⟩
  · obtain ⟨⟨h1, h2, h3, xs, o, ds, ep, r, ho, hc, hd, he⟩, _, _⟩ := (show ObjOk X.prog X.w H s.heap a (.ext (TDict TheW.w a es)) from I.hok a _ e)
    rw [← hw] at he
    have ks := tkeys r
    refine ⟨h1, h2, xs, r, o, ds, ep, ho, hc, hd, he, fun x hx => ?_, by rw [← ks]; exact h3⟩
    obtain ⟨i, hi⟩ := List.mem_iff_getElem?.mp hx
    obtain ⟨p, hp, q1, q2, _⟩ := pget' r hi
    have := hk p (List.mem_of_getElem? hp)
    rw [← q1, ← q2]
    exact ⟨nkv_is I this rfl, this.1⟩
  · obtain ⟨z, hd, vs, rel, o, ds, ep, ho, hc, hdd, _, hp, _⟩ := dk_rd I.hok e
    cases rel
    have e0 : ds.toList = [] := by
      generalize ds.toList = l at hp
      cases hp
      rfl
    exact ⟨hd, Nat.zero_le _, [], .nil, o, ds, ep, ho, hc, hdd, by rw [e0]; rfl, ⟨fun x hx => (nomatch hx), List.nodup_nil⟩⟩
theorem room8 (hu : A.units + 16 < cLine) : (nestedKind X.prog X.w).room A.in1 ∧ (nestedKind X.prog X.w).room A := by
  have : A.in1.units = A.units + 1 := rfl
  exact ⟨show A.in1.units + 8 < cLine by omega, show A.units + 8 < cLine by omega⟩
/-- d[y] -/
theorem t_getItem {b : Addr} {v : V} {Q : Value → Shared → Prop} (hw : X.w = TheW.w) (hu : A.units + 16 < cLine) (I : Inv X pins σ H s) (t : TTab X.K H a es) (hk : NkV X.K H (.ref b) k) (g : tget es k = some v)
    (h : ∀ w' s', Inv X pins σ H s' → RelV v w' → Q w' s') : wpAny (model X.prog X.w) A (getItem (.ref a) (.ref b)) Q E s := by
  obtain ⟨hd, _, xs, r, dd⟩ := tt_of hw I t
  obtain ⟨w', hw', rw'⟩ := RelO.some_of (v := v) (o := (atKey xs k).map (·.2)) (by rw [← g]; exact tget_rel k r)
  obtain ⟨p, hp, hp2⟩ := Option.map_eq_some_iff.mp hw'
  refine wpAny_getItem_heap (room8 hu).1 ⟨nkv_is I hk rfl, hk.1⟩ dd hp ?_
  rw [hp2]
  exact h w' _ (I.tok _) rw'
theorem t_some (r : TPr es xs) : (atKey xs k).isSome = (tget es k).isSome := by
  have q := (tget_rel k r).isSome_eq
  rw [Option.isSome_map] at q
  exact q.symm
/-- y in d -/
theorem t_in {b : Addr} {Q : Value → Shared → Prop} (hw : X.w = TheW.w) (hu : A.units + 16 < cLine) (I : Inv X pins σ H s) (t : TTab X.K H a es) (hk : NkV X.K H (.ref b) k)
    (h : ∀ s', Inv X pins σ H s' → Q (.bool (tget es k).isSome) s') : wpAny (model X.prog X.w) A (compareOp .In (.ref b) (.ref a)) Q E s := by
  obtain ⟨hd, _, xs, r, dd⟩ := tt_of hw I t
  refine wpAny_in_heap (room8 hu).1 ⟨nkv_is I hk rfl, hk.1⟩ hd dd ?_
  rw [t_some r]
  exact h _ (I.tok _)
theorem t_notIn {b : Addr} {Q : Value → Shared → Prop} (hw : X.w = TheW.w) (hu : A.units + 16 < cLine) (I : Inv X pins σ H s) (t : TTab X.K H a es) (hk : NkV X.K H (.ref b) k)
    (h : ∀ s', Inv X pins σ H s' → Q (.bool (!(tget es k).isSome)) s') : wpAny (model X.prog X.w) A (compareOp .NotIn (.ref b) (.ref a)) Q E s := by
  obtain ⟨hd, _, xs, r, dd⟩ := tt_of hw I t
  refine wpAny_notIn_heap (room8 hu).1 ⟨nkv_is I hk rfl, hk.1⟩ hd dd ?_
  rw [t_some r]
  exact h _ (I.tok _)
/-- the table's object, known again -/
theorem td_new {H' : Hp} {h' : Heap} {xs : List (NestedKey × Addr × Value)} (hw : X.w = TheW.w) (hd : (a == sysModules) = false) (hl : es.length ≤ sizeLine) (r : TPr es xs) (dd : h'.DictOfH (nestedKind X.prog X.w) a xs) : ObjOk X.prog X.w H' h' a (.ext (TDict TheW.w a es)) := by
  obtain ⟨o, ds, ep, ho, hc, hdd, he, _, nd⟩ := dd
  refine ⟨⟨hd, hl, by rw [tkeys r]; exact nd, xs, o, ds, ep, r, ho, hc, hdd, by rw [he, ← hw]; rfl⟩, ⟨o, ho⟩, fun h1 h2 t k => ?_⟩
  obtain ⟨g1, g2, g3, xs, o, ds, ep, g4, g5, g6⟩ := t
  exact ⟨g1, g2, g3, xs, o, ds, ep, g4, k _ g5, g6⟩
/-- d[y] = v -/
theorem t_setItem {b : Addr} {v : V} {r : Value} {Q : Unit → Shared → Prop} (hw : X.w = TheW.w) (hu : A.units + 16 < cLine) (I : Inv X pins σ H s) (t : TTab X.K H a es) (mu : Mut (H a)) (hk : NkV X.K H (.ref b) k) (rv : RelV v r) (hz : es.length < sizeLine)
    (h : ∀ s', Inv X pins σ (upd H a (.ext (TDict TheW.w a (tput es k b v)))) s' → Q () s') : wpAny (model X.prog X.w) A (setItem (.ref a) (.ref b) r) Q E s := by
  obtain ⟨hd, _, xs, rr, dd⟩ := tt_of hw I t
  refine wpAny_setItem_heap (hsz := by rw [← Paired.length rr]; omega) (room8 hu).1 ⟨nkv_is I hk rfl, hk.1⟩ dd fun h' dd' hs => h _ ?_
  have he : ∃ q, h'.get? a = some q := let ⟨q, _, _, hq, _⟩ := dd'; ⟨q, hq⟩
  exact d_write I mu hs he (td_new hw hd (by have := tput_len (es := es) (k := k) (b := b) (v := v); omega) (tput_rel k rv rr) dd')
end
end PL

/-! PL2: operations on data. -/
namespace PL
open PySem PySem.Spec PyProof.Rows L2
variable [TheW]

section
variable {K : PySem.W.Frag} {H H' : Hp} {O O' : Addr → Prop} {x y : V} {d e : D}
/-! ### what is looked at -/
theorem lk_int {i : Int} (h : Lk K H O x (.int i)) : x = .int i := by
  rcases h with h | ⟨a, o, _, e, _⟩
  · cases h; rfl
  · cases o <;> cases e
theorem lk_str {i : Str} (h : Lk K H O x (.str i)) : x = .str i := by
  rcases h with h | ⟨a, o, _, e, _⟩
  · cases h; rfl
  · cases o <;> cases e
theorem lk_bl {i : Bool} (h : Lk K H O x (.bool i)) : x = .bl i := by
  rcases h with h | ⟨a, o, _, e, _⟩
  · cases h; rfl
  · cases o <;> cases e
theorem lk_list {ds : List D} (h : Lk K H O x (.list ds)) : ∃ a xs, x = .ref a ∧ SqL K H a xs ∧ FzAll K H O xs ds := by
  rcases h with h | ⟨a, o, rfl, e, h⟩
  · cases h with
    | lst h1 h2 => exact ⟨_, _, rfl, h1.sq, h2⟩
  · cases o with
    | L xs =>
      cases e
      obtain ⟨vs, h1, h2⟩ := h
      exact ⟨a, vs, rfl, SqL.of h1, h2⟩
    | M kvs => cases e
theorem lk_tup {ds : List D} (h : Lk K H O x (.tuple ds)) : ∃ a xs, x = .ref a ∧ SqT K H a xs ∧ FzAll K H O xs ds ∧ Fz K H O x (.tuple ds) := by
  rcases h with h | ⟨a, o, rfl, e, h⟩
  · cases h with
    | tup h1 h2 => exact ⟨_, _, rfl, h1.sq, h2, .tup h1 h2⟩
  · cases o <;> cases e
/-- data that isn't a list or a dict stands for itself -/
def flatD : D → Bool
  | .list _ => false
  | .dict _ => false
  | _ => true
theorem lk_fz (h : Lk K H O x d) (f : flatD d = true) : Fz K H O x d := by
  rcases h with h | ⟨a, o, rfl, rfl, _⟩
  · exact h
  · cases o <;> cases f
mutual
theorem Fz.dp : ∀ (d : D) (x : V), d.canLay0 = true → Fz K H O x d → Dp K H x d
  | .none, _, _, h => by cases h; exact .non
  | .bool b, _, _, h => by cases h; exact .bl b
  | .int i, _, _, h => by cases h; exact .int i
  | .str x, _, _, h => by cases h; exact .str x
  | .list ds, _, c, h => by
    cases h with
    | lst h1 h2 => exact .lst h1.sq (FzAll.dp ds _ (by simpa [PyData.canLay0] using c) h2)
  | .tuple ds, _, c, h => by
    cases h with
    | tup h1 h2 => exact .tup h1.sq (FzAll.dp ds _ (by simpa [PyData.canLay0] using c) h2)
  | .dict kvs, _, c, _ => nomatch c
theorem FzAll.dp : ∀ (ds : List D) (xs : List V), PyData.canLayAll0 ds = true → FzAll K H O xs ds → DpAll K H xs ds
  | [], _, _, h => by cases h; exact .nil
  | d :: ds, _, c, h => by
    cases h with
    | cons h1 h2 =>
      have c' : d.canLay0 = true ∧ PyData.canLayAll0 ds = true := by simpa [PyData.canLayAll0] using c
      exact .cons (Fz.dp d _ c'.1 h1) (FzAll.dp ds _ c'.2 h2)
end
theorem lk_dp (c : d.canLay0 = true) (h : Lk K H O x d) : Dp K H x d := by
  cases d with
  | list ds =>
    obtain ⟨a, xs, rfl, h1, h2⟩ := lk_list h
    exact .lst h1 (FzAll.dp ds _ (by simpa [PyData.canLay0] using c) h2)
  | dict kvs => nomatch c
  | none => exact Fz.dp _ _ c (lk_fz h rfl)
  | bool b => exact Fz.dp _ _ c (lk_fz h rfl)
  | int i => exact Fz.dp _ _ c (lk_fz h rfl)
  | str s => exact Fz.dp _ _ c (lk_fz h rfl)
  | tuple ds => exact Fz.dp _ _ c (lk_fz h rfl)
theorem lay_of (h : SeqAt.shaped d = true) : d.canLay0 = true := SeqAt.canLay_of_shaped h
theorem fz_ints : ∀ {xs : List V} {ns : List Int}, FzAll K H O xs (ns.map PyData.int) → xs = ns.map V.int
  | _, [], h => by cases h; rfl
  | _, n :: ns, h => by
    cases h with
    | cons h1 h2 => cases h1; rw [fz_ints h2]; rfl
theorem fz_strs : ∀ {xs : List V} {ns : List Str}, FzAll K H O xs (ns.map PyData.str) → xs = ns.map V.str
  | _, [], h => by cases h; rfl
  | _, n :: ns, h => by
    cases h with
    | cons h1 h2 => cases h1; rw [fz_strs h2]; rfl
theorem fz_bls : ∀ {xs : List V} {ns : List Bool}, FzAll K H O xs (ns.map PyData.bool) → xs = ns.map V.bl
  | _, [], h => by cases h; rfl
  | _, n :: ns, h => by
    cases h with
    | cons h1 h2 => cases h1; rw [fz_bls h2]; rfl
theorem fzAll_ints {ns : List Int} : FzAll K H O (ns.map V.int) (ns.map PyData.int) := by
  induction ns with
  | nil => exact .nil
  | cons n ns ih => exact .cons (.int n) ih
theorem fzAll_strs {ns : List Str} : FzAll K H O (ns.map V.str) (ns.map PyData.str) := by
  induction ns with
  | nil => exact .nil
  | cons n ns ih => exact .cons (.str n) ih
end
/-- ints, texts, truths of a list of data -/
def intsOf : List D → Option (List Int)
  | [] => some []
  | .int i :: r => (intsOf r).map (i :: ·)
  | _ :: _ => none
def strsOf : List D → Option (List Str)
  | [] => some []
  | .str i :: r => (strsOf r).map (i :: ·)
  | _ :: _ => none
def blsOf : List D → Option (List Bool)
  | [] => some []
  | .bool i :: r => (blsOf r).map (i :: ·)
  | _ :: _ => none
theorem intsOf_eq : ∀ {ds : List D} {ns : List Int}, intsOf ds = some ns → ds = ns.map PyData.int
  | [], _, h => by cases h; rfl
  | d :: r, ns, h => by
    cases d with
    | int i =>
      obtain ⟨ms, e, rfl⟩ := Option.map_eq_some_iff.mp (show (intsOf r).map (i :: ·) = some ns from h)
      rw [intsOf_eq e]; rfl
    | _ => cases h
theorem strsOf_eq : ∀ {ds : List D} {ns : List Str}, strsOf ds = some ns → ds = ns.map PyData.str
  | [], _, h => by cases h; rfl
  | d :: r, ns, h => by
    cases d with
    | str i =>
      obtain ⟨ms, e, rfl⟩ := Option.map_eq_some_iff.mp (show (strsOf r).map (i :: ·) = some ns from h)
      rw [strsOf_eq e]; rfl
    | _ => cases h
theorem blsOf_eq : ∀ {ds : List D} {ns : List Bool}, blsOf ds = some ns → ds = ns.map PyData.bool
  | [], _, h => by cases h; rfl
  | d :: r, ns, h => by
    cases d with
    | bool i =>
      obtain ⟨ms, e, rfl⟩ := Option.map_eq_some_iff.mp (show (blsOf r).map (i :: ·) = some ns from h)
      rw [blsOf_eq e]; rfl
    | _ => cases h
@[simp] theorem intsOf_map : ∀ ns : List Int, intsOf (ns.map PyData.int) = some ns
  | [] => rfl
  | n :: ns => by simp [intsOf, intsOf_map ns]
@[simp] theorem strsOf_map : ∀ ns : List Str, strsOf (ns.map PyData.str) = some ns
  | [] => rfl
  | n :: ns => by simp [strsOf, strsOf_map ns]
@[simp] theorem blsOf_map : ∀ ns : List Bool, blsOf (ns.map PyData.bool) = some ns
  | [] => rfl
  | n :: ns => by simp [blsOf, blsOf_map ns]

/-! ### joining rules -/
section
variable {X : Cx} {f : Value → Value → Sem Value} {r1 r2 : R2}
def rOr (r1 r2 : R2) : R2 := fun x y H Q => r1 x y H Q ∨ r2 x y H Q
theorem op_or2 (h1 : OpR X f r1) (h2 : OpR X f r2) : OpR X f (rOr r1 r2) := fun pins s σ H x y v u Q I rx ry h => h.elim (h1 pins s σ H x y v u Q I rx ry) (h2 pins s σ H x y v u Q I rx ry)
end
section
variable {X : Cx} {v : Value} {r1 r2 : List V → Hp → VK → Prop}
def cOr (r1 r2 : List V → Hp → VK → Prop) : List V → Hp → VK → Prop := fun xs H Q => r1 xs H Q ∨ r2 xs H Q
theorem call_or2 (h1 : CallR X v r1) (h2 : CallR X v r2) : CallR X v (cOr r1 r2) := fun pins s σ H xs us Q I r h => h.elim (h1 pins s σ H xs us Q I r) (h2 pins s σ H xs us Q I r)
end

/-! ### + - * // % ** -/
/-- a list and a list of any kind -/
def rCatL (K : PySem.W.Frag) : R2 := fun x y H Q => ∃ l b xs zs, x = .ref l ∧ y = .ref b ∧ SqL K H l xs ∧ SqL K H b zs ∧ xs.length + zs.length ≤ sizeLine ∧ ∀ p, H p = none → Q (.ref p) (upd H p (.lst (xs ++ zs)))
theorem op_catL {X : Cx} : OpR X (binaryOp .Add) (rCatL X.K) := by
  rintro pins s σ H x y v u Q I rx ry ⟨l, b, xs, zs, rfl, rfl, h1, h2, hz, q⟩
  cases rx
  cases ry
  obtain ⟨us, r1, p1, _⟩ := I.list h1
  obtain ⟨ws, r2, p2, _⟩ := I.list h2
  have e1 := r1.length
  have e2 := r2.length
  obtain ⟨⟨cls, dd, data, sl⟩, n, ho, hc, _, hd⟩ := p1
  obtain ⟨⟨cls2, dd2, data2, sl2⟩, n2, ho2, hc2, _, hd2⟩ := p2
  dsimp only at hc hd hc2 hd2
  subst hc; subst hd; subst hc2; subst hd2
  refine concat_meets ⟨_, ho, rfl⟩ ⟨_, ho2, rfl⟩ noFill_list_add seq_list_add F.slot_list_add F.entry_list_add (F.args_list_add_2 _ _) (list_addW l b us.toArray ws.toArray n n2 dd dd2 sl sl2 (by rw [List.size_toArray, List.size_toArray]; omega)) ⟨ho, ho2, ?_⟩
  rw [List.append_toArray]
  exact ⟨.ref _, _, I.lnew (t' := s.toks) (r1.append r2) (by rw [List.length_append]; omega), rfl, q _ I.fresh⟩

def gAdd : D → D → Option RV
  | .int i, .int j => some (.d (.int (i + j)))
  | .str a, .str b => if a.length + b.length ≤ sizeLine then some (.d (.str (a ++ b))) else none
  | .list a, .list b => if a.length + b.length ≤ sizeLine then some (.nl (.L (a ++ b))) else none
  | .tuple a, .tuple b => if a.length + b.length ≤ sizeLine then some (.d (.tuple (a ++ b))) else none
  | .int i, .bool k => some (.d (.int (i + b2i k)))
  | _, _ => none
def rAddD (K : PySem.W.Frag) : R2 := rOr (rI0 fun i j => .int (i + j)) (rOr (fun x y H Q => ∃ i j, x = .str i ∧ y = .str j ∧ i.length + j.length ≤ sizeLine ∧ Q (.str (i ++ j)) H) (rOr (rCatL K) (rOr (rCatF K) fun x y H Q => ∃ i k, x = .int i ∧ y = .bl k ∧ Q (.int (i + b2i k)) H)))
theorem op_addD {X : Cx} : OpR X (binaryOp .Add) (rAddD X.K) := op_or2 op_add (op_or2 op_add_str (op_or2 op_catL (op_or2 op_catF op_add_ib)))
theorem op2_add {K : PySem.W.Frag} : Op2 K (rAddD K) gAdd := by
  intro H O x y d e z Q tr hx hy g k
  cases d <;> cases e <;> first
    | cases g
    | skip
  · cases lk_int hx; cases lk_bl hy
    exact .inr (.inr (.inr (.inr ⟨_, _, rfl, rfl, k _ _ _ (.same tr (.int _))⟩)))
  · cases lk_int hx; cases lk_int hy
    exact .inl ⟨_, _, rfl, rfl, k _ _ _ (.same tr (.int _))⟩
  · rename_i a b
    have g : (if a.length + b.length ≤ sizeLine then some (RV.d (.str (a ++ b))) else none) = some z := g
    by_cases hz : a.length + b.length ≤ sizeLine
    · rw [if_pos hz] at g
      cases g
      cases lk_str hx; cases lk_str hy
      exact .inr (.inl ⟨_, _, rfl, rfl, hz, k _ _ _ (.same tr (.str _))⟩)
    · rw [if_neg hz] at g; cases g
  · rename_i a b
    have g : (if a.length + b.length ≤ sizeLine then some (RV.nl (.L (a ++ b))) else none) = some z := g
    by_cases hz : a.length + b.length ≤ sizeLine
    · rw [if_pos hz] at g
      cases g
      obtain ⟨l, xs, rfl, h1, h2⟩ := lk_list hx
      obtain ⟨m, ys, rfl, h3, h4⟩ := lk_list hy
      exact .inr (.inr (.inl ⟨l, m, xs, ys, rfl, rfl, h1, h3, by rw [h2.length, h4.length]; exact hz, fun p n => k _ _ _ (.lst tr n (h2.append h4))⟩))
    · rw [if_neg hz] at g; cases g
  · rename_i a b
    have g : (if a.length + b.length ≤ sizeLine then some (RV.d (.tuple (a ++ b))) else none) = some z := g
    by_cases hz : a.length + b.length ≤ sizeLine
    · rw [if_pos hz] at g
      cases g
      obtain ⟨l, xs, rfl, h1, h2, f1⟩ := lk_tup hx
      obtain ⟨m, ys, rfl, h3, h4, f2⟩ := lk_tup hy
      refine .inr (.inr (.inr (.inl ⟨l, m, xs, ys, rfl, rfl, h1, h3, by rw [h2.length, h4.length]; exact hz, fun e => ?_, fun _ e => ?_, fun _ _ p ob n od => k _ _ _ (.tup tr n od (h2.append h4))⟩)))
      · have ea : a = [] := by
          have := h2.length
          rw [e] at this
          exact List.length_eq_zero_iff.mp this.symm
        subst ea
        exact k _ _ _ (.same tr f2)
      · have ea : b = [] := by
          have := h4.length
          rw [e] at this
          exact List.length_eq_zero_iff.mp this.symm
        subst ea
        refine k _ _ _ (.same tr ?_)
        rw [List.append_nil]
        exact f1
    · rw [if_neg hz] at g; cases g

/-- two ints in, an int or a truth out -/
def g2I (C : Int → Int → Prop) [∀ i j, Decidable (C i j)] (g : Int → Int → D) : D → D → Option RV
  | .int i, .int j => if C i j then some (.d (g i j)) else none
  | _, _ => none
theorem op2_I {K : PySem.W.Frag} {C : Int → Int → Prop} [∀ i j, Decidable (C i j)] {g : Int → Int → V} {g' : Int → Int → D} (hg : ∀ H O i j, Fz K H O (g i j) (g' i j)) : Op2 K (rI C g) (g2I C g') := by
  intro H O x y d e z Q tr hx hy q k
  cases d <;> cases e <;> first
    | cases q
    | skip
  rename_i i j
  have q : (if C i j then some (RV.d (g' i j)) else none) = some z := q
  by_cases hc : C i j
  · rw [if_pos hc] at q
    cases q
    cases lk_int hx; cases lk_int hy
    exact ⟨i, j, rfl, rfl, hc, k _ _ _ (.same tr (hg _ _ i j))⟩
  · rw [if_neg hc] at q; cases q
def g2I0 (g : Int → Int → D) : D → D → Option RV
  | .int i, .int j => some (.d (g i j))
  | _, _ => none
theorem op2_I0 {K : PySem.W.Frag} {g : Int → Int → V} {g' : Int → Int → D} (hg : ∀ H O i j, Fz K H O (g i j) (g' i j)) : Op2 K (rI0 g) (g2I0 g') := by
  intro H O x y d e z Q tr hx hy q k
  cases d <;> cases e <;> first
    | cases q
    | skip
  rename_i i j
  cases lk_int hx; cases lk_int hy
  exact ⟨i, j, rfl, rfl, k _ _ _ (.same tr (hg _ _ i j))⟩
/-- * of ints: one side small, or both together below a million bits -/
def CMulA (i j : Int) : Prop := CMul i j ∨ CMulW i j
instance (i j : Int) : Decidable (CMulA i j) := by unfold CMulA CMul CMulW; infer_instance
theorem op_mulA {X : Cx} : OpR X (binaryOp .Mult) (rI CMulA fun i j => .int (i * j)) := opI fun _ _ _ _ _ _ _ hc q => mul_int q (hc.elim CMul.ok CMulW.ok)
instance (i j : Int) : Decidable (CDivW i j) := by unfold CDivW; infer_instance
instance (i j : Int) : Decidable (CPow i j) := by unfold CPow; infer_instance
instance (j : Int) : Decidable ((fun _ j : Int => 0 < j) i j) := by dsimp only; infer_instance
abbrev gSub := g2I0 fun i j => .int (i - j)
abbrev gMul := g2I CMulA fun i j => .int (i * j)
abbrev gDiv := g2I CDivW fun i j => .int (i / j)
abbrev gMod := g2I (fun _ j => 0 < j) fun i j => .int (i % j)
abbrev gPow := g2I CPow fun i j => .int (i ^ j.toNat)
abbrev gLt := g2I0 fun i j => .bool (decide (i < j))
abbrev gLe := g2I0 fun i j => .bool (decide (i ≤ j))
abbrev gGt := g2I0 fun i j => .bool (decide (j < i))
abbrev gGe := g2I0 fun i j => .bool (decide (j ≤ i))
section
variable {X : Cx} {a b c : Expr} {ma mb mc : ME} {pos : Pos}
theorem p_add (ha : PE X a (tE X.K ma)) (hb : PE X b (tE X.K mb)) : PE X (.BinOp a .Add b pos) (tE X.K (m2 gAdd ma mb)) := p_bin op_addD op2_add ha hb
theorem p_sub (ha : PE X a (tE X.K ma)) (hb : PE X b (tE X.K mb)) : PE X (.BinOp a .Sub b pos) (tE X.K (m2 gSub ma mb)) := p_bin op_sub (op2_I0 fun _ _ _ _ => .int _) ha hb
theorem p_mul (ha : PE X a (tE X.K ma)) (hb : PE X b (tE X.K mb)) : PE X (.BinOp a .Mult b pos) (tE X.K (m2 gMul ma mb)) := p_bin op_mulA (op2_I fun _ _ _ _ => .int _) ha hb
theorem p_div (ha : PE X a (tE X.K ma)) (hb : PE X b (tE X.K mb)) : PE X (.BinOp a .FloorDiv b pos) (tE X.K (m2 gDiv ma mb)) := p_bin op_fdivW (op2_I fun _ _ _ _ => .int _) ha hb
theorem p_mod (ha : PE X a (tE X.K ma)) (hb : PE X b (tE X.K mb)) : PE X (.BinOp a .Mod b pos) (tE X.K (m2 gMod ma mb)) := p_bin op_mod (op2_I fun _ _ _ _ => .int _) ha hb
theorem p_pow (ha : PE X a (tE X.K ma)) (hb : PE X b (tE X.K mb)) : PE X (.BinOp a .Pow b pos) (tE X.K (m2 gPow ma mb)) := p_bin op_pow (op2_I fun _ _ _ _ => .int _) ha hb
def gNeg : D → Option RV
  | .int i => some (.d (.int (-i)))
  | _ => none
theorem p_neg (ha : PE X a (tE X.K ma)) : PE X (.UnaryOp .USub a pos) (tE X.K (m1 gNeg ma)) := p_un un_neg (fun H O x d z Q tr h g k => by
  cases d <;> cases g
  cases lk_int h
  exact ⟨_, rfl, k _ _ _ (.same tr (.int _))⟩) ha

/-! ### == != in is -/
def isSt : D → Bool
  | .str _ => true
  | _ => false
def eqC (d e : D) : Prop := (isSt d = true ∧ isSt e = true) ∨ (SeqAt.shaped d = true ∧ SeqAt.shaped e = true)
instance (d e : D) : Decidable (eqC d e) := by unfold eqC; infer_instance
def gEq : D → D → Option RV := fun d e => if eqC d e then some (.d (.bool (PyData.eqv d e))) else none
def gNe : D → D → Option RV := fun d e => if eqC d e then some (.d (.bool (!PyData.eqv d e))) else none
theorem st_of {d : D} (h : isSt d = true) : ∃ s, d = .str s := by
  cases d with
  | str s => exact ⟨s, rfl⟩
  | _ => cases h
theorem op2_eq {K : PySem.W.Frag} : Op2 K (rOr rEq (rEqD K)) gEq := by
  intro H O x y d e z Q tr hx hy g k
  unfold gEq at g
  split at g
  · rename_i hc
    cases g
    rcases hc with hc | hc
    · obtain ⟨s, rfl⟩ := st_of hc.1
      obtain ⟨t, rfl⟩ := st_of hc.2
      cases lk_str hx; cases lk_str hy
      refine .inl ⟨rfl, ?_⟩
      rw [dec_str]
      exact k _ _ _ (.same tr (.bl _))
    · exact .inr ⟨d, e, lk_dp (lay_of hc.1) hx, lk_dp (lay_of hc.2) hy, hc.1, hc.2, k _ _ _ (.same tr (.bl _))⟩
  · cases g
theorem op2_ne {K : PySem.W.Frag} : Op2 K (rOr rNe (rNeD K)) gNe := by
  intro H O x y d e z Q tr hx hy g k
  unfold gNe at g
  split at g
  · rename_i hc
    cases g
    rcases hc with hc | hc
    · obtain ⟨s, rfl⟩ := st_of hc.1
      obtain ⟨t, rfl⟩ := st_of hc.2
      cases lk_str hx; cases lk_str hy
      refine .inl ⟨rfl, ?_⟩
      rw [dec_str]
      exact k _ _ _ (.same tr (.bl _))
    · exact .inr ⟨d, e, lk_dp (lay_of hc.1) hx, lk_dp (lay_of hc.2) hy, hc.1, hc.2, k _ _ _ (.same tr (.bl _))⟩
  · cases g
theorem p_eq (hu : X.A.units + 64 < cLine) (ha : PE X a (tE X.K ma)) (hb : PE X b (tE X.K mb)) : PE X (.Compare a [.Eq] [b] pos) (tE X.K (m2 gEq ma mb)) := p_cmp (op_or2 op_eq (op_eqD hu)) op2_eq ha hb (nobehind _ (by decide) (by decide))
/-- in a tuple of data -/
def rInT (K : PySem.W.Frag) (neg : Bool) : R2 := fun x y H Q => ∃ d ds, Dp K H x d ∧ Dp K H y (.tuple ds) ∧ SeqAt.shaped d = true ∧ SeqAt.shaped (.tuple ds) = true ∧ Q (.bl (if neg then !ds.any fun z => PyData.eqv z d else ds.any fun z => PyData.eqv z d)) H
theorem room_inT {d : D} {ds : List D} {u : Nat} (sd : SeqAt.shaped d = true) (hu : u + 65 < cLine) : u + 1 + min (PyData.depthAll ds) d.depth < cLine := by
  have h : (d.canLay0 && decide (d.depth ≤ 64)) = true := sd
  rw [Bool.and_eq_true, decide_eq_true_eq] at h
  have h1 := Nat.min_le_right (PyData.depthAll ds) d.depth
  omega
theorem op_inT (hu : X.A.units + 65 < cLine) : OpR X (compareOp .In) (rInT X.K false) := by
  rintro pins s σ H x y v u Q I rx ry ⟨d, ds, hd, he, sd, se, q⟩
  obtain ⟨as, r1⟩ := Dp.reads I d x v hd rx
  obtain ⟨bs, r2⟩ := Dp.reads I (.tuple ds) y u he ry
  exact SeqAt.in_tuple_reads r2 r1 (by simpa [PyData.canLay0] using lay_of se) (lay_of sd) (room_inT sd hu) ⟨.bl _, H, I, rfl, q⟩
theorem op_notInT (hu : X.A.units + 65 < cLine) : OpR X (compareOp .NotIn) (rInT X.K true) := by
  rintro pins s σ H x y v u Q I rx ry ⟨d, ds, hd, he, sd, se, q⟩
  obtain ⟨as, r1⟩ := Dp.reads I d x v hd rx
  obtain ⟨bs, r2⟩ := Dp.reads I (.tuple ds) y u he ry
  exact SeqAt.notIn_tuple_reads r2 r1 (by simpa [PyData.canLay0] using lay_of se) (lay_of sd) (room_inT sd hu) ⟨.bl _, H, I, rfl, q⟩
/-- a text within a text -/
def inStr (x y : Str) : Bool := !(Builtin.Str.occurrences y x 0 y.length 1).isEmpty
/-! ### dicts looked at -/
def isTD : D → Bool
  | .tuple _ => true
  | _ => false
def kOk : List (D × D) → D → Bool
  | [], _ => true
  | (k, _) :: _, d => isTD k == isTD d
def dFind (kvs : List (D × D)) (k : NestedKey) : Option D := (kvs.find? fun p => decide (keyD p.1 = some k)).map (·.2)
/-- what such a key has -/
def dGet (kvs : List (D × D)) (d : D) : Option (Option D) := (keyD d).bind fun k => if kOk kvs d = true then some (dFind kvs k) else none
/-- what the dict at a has at y -/
def Dg (K : PySem.W.Frag) (H : Hp) (a : Addr) (y : V) (o : Option V) : Prop := DGet H a y o ∨ ∃ es k b, y = .ref b ∧ TTab K H a es ∧ NkV K H y k ∧ o = tget es k
def FzO (K : PySem.W.Frag) (H : Hp) (O : Addr → Prop) : Option V → Option D → Prop
  | some v, some d => Fz K H O v d
  | none, none => True
  | _, _ => False
section
variable {K : PySem.W.Frag} {H : Hp} {O : Addr → Prop}
def nkK : Key → NestedKey
  | .inl i => .num i
  | .inr x => .text x
theorem nk_kD (k : Key) : keyD (kD k) = some (nkK k) := by cases k <;> rfl
theorem nkK_inj {a b : Key} (h : nkK a = nkK b) : a = b := by
  cases a <;> cases b <;> cases h <;> rfl
theorem find_k (k : Key) : ∀ {ks : List (Key × V)} {kvs : List (D × D)}, ks.map (fun p => kD p.1) = kvs.map (·.1) → FzKv K H O (ks.map (·.2)) kvs → FzO K H O (valV ks k) (dFind kvs (nkK k))
  | [], [], _, _ => True.intro
  | [], _ :: _, h, _ => by cases h
  | _ :: _, [], h, _ => by cases h
  | (k1, v) :: ks, (d1, e) :: kvs, h, f => by
    cases f with
    | cons f1 f2 =>
      have h1 : kD k1 = d1 := by injection h
      have h2 : ks.map (fun p => kD p.1) = kvs.map (·.1) := by injection h
      have ih := find_k k h2 f2
      unfold valV dFind at ih ⊢
      rw [List.find?_cons, List.find?_cons, ← h1]
      by_cases q : k1 = k
      · subst q
        simp only [nk_kD, decide_true]
        exact f1
      · have : ¬ nkK k1 = nkK k := fun z => q (nkK_inj z)
        simp only [nk_kD, Option.some.injEq, this, q, decide_false]
        exact ih
theorem find_t (k : NestedKey) : ∀ {es : List (NestedKey × Addr × V)} {kvs : List (D × D)}, kvs.map (fun p => keyD p.1) = es.map (fun e => some e.1) → FzKv K H O (es.map (·.2.2)) kvs → FzO K H O (tget es k) (dFind kvs k)
  | [], [], _, _ => True.intro
  | [], _ :: _, h, _ => by cases h
  | _ :: _, [], h, _ => by cases h
  | (k1, b, v) :: es, (d1, e) :: kvs, h, f => by
    cases f with
    | cons f1 f2 =>
      have h1 : keyD d1 = some k1 := by injection h
      have h2 : kvs.map (fun p => keyD p.1) = es.map (fun e => some e.1) := by injection h
      have ih := find_t k h2 f2
      unfold tget dFind at ih ⊢
      rw [List.find?_cons, List.find?_cons]
      by_cases q : k1 = k
      · subst q
        simp only [h1, decide_true]
        exact f1
      · simp only [h1, Option.some.injEq, q, decide_false]
        exact ih
theorem nkv_tup {ds : List D} {k : NestedKey} (h : Lk K H O y (.tuple ds)) (e : keyD (.tuple ds) = some k) : (∃ b, y = .ref b) ∧ NkV K H y k := by
  obtain ⟨a, xs, rfl, _, _, f⟩ := lk_tup h
  obtain ⟨e1, e2⟩ := keyD_nk e
  exact ⟨⟨a, rfl⟩, e2, O, _, f, e1⟩
theorem keys_t {es : List (NestedKey × Addr × V)} {kvs : List (D × D)} (h : kvs.map (fun p => keyD p.1) = es.map (fun e => some e.1)) (f : FzKk K H O (es.map fun e => .ref e.2.1) kvs) : ∀ e ∈ es, NkV K H (.ref e.2.1) e.1 := by
  intro e he
  obtain ⟨i, hi⟩ := List.mem_iff_getElem?.mp he
  have : ∀ {es : List (NestedKey × Addr × V)} {kvs : List (D × D)} {i : Nat} {e : NestedKey × Addr × V}, es[i]? = some e → kvs.map (fun p => keyD p.1) = es.map (fun e => some e.1) → FzKk K H O (es.map fun e => .ref e.2.1) kvs → ∃ d, Fz K H O (.ref e.2.1) d ∧ keyD d = some e.1 := by
    intro es
    induction es with
    | nil => intro kvs i e h; cases i <;> cases h
    | cons x es ih =>
      intro kvs i e hi h f
      cases kvs with
      | nil => cases h
      | cons p kvs =>
        cases f with
        | cons f1 f2 =>
          cases i with
          | zero => cases hi; exact ⟨_, f1, by injection h⟩
          | succ i => exact ih (i := i) hi (by injection h) f2
  obtain ⟨d, g1, g2⟩ := this hi h f
  obtain ⟨g3, g4⟩ := keyD_nk g2
  exact ⟨g4, O, d, g1, g3⟩
end
/-- a dict that is looked at, at a key -/
theorem lk_dget {K : PySem.W.Frag} {H : Hp} {O : Addr → Prop} {x y : V} {d : D} {kvs : List (D × D)} {o : Option D} (hx : Lk K H O x (.dict kvs)) (hy : Lk K H O y d) (g : dGet kvs d = some o) : ∃ a ov, x = .ref a ∧ Dg K H a y ov ∧ FzO K H O ov o := by
  obtain ⟨k, hk, g⟩ := Option.bind_eq_some_iff.mp g
  by_cases hok : kOk kvs d = true
  rotate_left
  · rw [if_neg hok] at g
    cases g
  rw [if_pos hok] at g
  cases g
  have cases2 : ∃ a, x = .ref a ∧ ((∃ ks : List (Key × V), H a = some (.dK ks) ∧ ks.map (fun p => kD p.1) = kvs.map (·.1) ∧ FzKv K H O (ks.map (·.2)) kvs) ∨ TAt K H O a kvs) := by
    rcases hx with hx | ⟨a, oc, rfl, e, hx⟩
    · cases hx with
      | @dk a ks _ h1 _ h3 h4 => exact ⟨a, rfl, .inl ⟨ks, h1, h3, h4⟩⟩
      | @dt a es _ h0 h1 _ h3 h4 h5 => exact ⟨a, rfl, .inr ⟨es, h0, h1, h3, h4, h5⟩⟩
    · cases oc with
      | L xs => cases e
      | M kvs' => cases e; exact ⟨a, rfl, hx⟩
  obtain ⟨a, rfl, hc⟩ := cases2
  have atom : ∀ q : Key, k = nkK q → y = kV q → isTD d = false → ∃ a' ov, V.ref a = .ref a' ∧ Dg K H a' y ov ∧ FzO K H O ov (dFind kvs k) := by
    rintro q rfl rfl ht
    rcases hc with ⟨ks, h1, h2, h3⟩ | ⟨es, h0, h1, h2, h3, h4⟩
    · exact ⟨a, _, rfl, .inl (DGet.k h1), find_k q h2 h3⟩
    · exfalso
      cases es with
      | nil => exact h0 rfl
      | cons e es =>
        cases kvs with
        | nil => cases h2
        | cons p kvs =>
          obtain ⟨pk, pv⟩ := p
          cases h3 with
          | cons f1 f2 =>
            have e1 : keyD pk = some e.1 := by injection h2
            have : isTD pk = true := by
              cases f1 with
              | tup _ _ => rfl
              | lst _ _ => cases e1
              | dk _ _ _ _ => cases e1
              | dt _ _ _ _ _ _ => cases e1
            have hok : (isTD pk == isTD d) = true := hok
            rw [this, ht] at hok
            cases hok
  cases d with
  | int i => cases hk; exact atom (.inl i) rfl (lk_int hy) rfl
  | str z => cases hk; exact atom (.inr z) rfl (lk_str hy) rfl
  | tuple ds =>
    obtain ⟨⟨b, rfl⟩, hn⟩ := nkv_tup hy hk
    rcases hc with ⟨ks, h1, h2, h3⟩ | ⟨es, h0, h1, h2, h3, h4⟩
    · cases ks with
      | cons q ks =>
        exfalso
        cases kvs with
        | nil => cases h2
        | cons p kvs =>
          obtain ⟨pk, pv⟩ := p
          obtain ⟨qk, qv⟩ := q
          have e1 : kD qk = pk := by injection h2
          have hok : (isTD pk == true) = true := hok
          rw [← e1] at hok
          cases qk <;> cases hok
      | nil =>
        cases kvs with
        | cons p kvs => cases h2
        | nil => exact ⟨a, none, rfl, .inr ⟨[], k, b, rfl, .inr ⟨rfl, .inl h1⟩, hn, rfl⟩, True.intro⟩
    · exact ⟨a, _, rfl, .inr ⟨es, k, b, rfl, .inl ⟨h1, keys_t h2 h3⟩, hn, rfl⟩, find_t k h2 h4⟩
  | _ => cases hk
section
variable {X : Cx}
theorem dg_in (hw : X.w = TheW.w) (hu : X.A.units + 16 < cLine) {pins : List (Addr × Obj)} {σ : L2.St} {H : Hp} {s : Shared} {a : Addr} {y : V} {o : Option V} {u : Value} {E : Value → Shared → Prop} {Q : Value → Shared → Prop} (I : Inv X pins σ H s) (g : Dg X.K H a y o) (ry : RelV y u)
    (h : ∀ s', Inv X pins σ H s' → Q (.bool o.isSome) s') : wpAny (model X.prog X.w) X.A (compareOp .In u (.ref a)) Q E s := by
  rcases g with g | ⟨es, k, b, rfl, t, hk, rfl⟩
  · exact d_in (by omega) I g ry h
  · cases (show u = Value.ref b from ry)
    exact t_in hw hu I t hk h
theorem dg_notIn (hw : X.w = TheW.w) (hu : X.A.units + 16 < cLine) {pins : List (Addr × Obj)} {σ : L2.St} {H : Hp} {s : Shared} {a : Addr} {y : V} {o : Option V} {u : Value} {E : Value → Shared → Prop} {Q : Value → Shared → Prop} (I : Inv X pins σ H s) (g : Dg X.K H a y o) (ry : RelV y u)
    (h : ∀ s', Inv X pins σ H s' → Q (.bool (!o.isSome)) s') : wpAny (model X.prog X.w) X.A (compareOp .NotIn u (.ref a)) Q E s := by
  rcases g with g | ⟨es, k, b, rfl, t, hk, rfl⟩
  · exact d_notIn (by omega) I g ry h
  · cases (show u = Value.ref b from ry)
    exact t_notIn hw hu I t hk h
def rInDict (K : PySem.W.Frag) (neg : Bool) : R2 := fun x y H Q => ∃ a o, y = .ref a ∧ Dg K H a x o ∧ Q (.bl (neg ^^ o.isSome)) H
theorem op_inDict (hw : X.w = TheW.w) (hu : X.A.units + 16 < cLine) : OpR X (compareOp .In) (rInDict X.K false) := by
  rintro pins s σ H x y v u Q I rx ry ⟨a, o, rfl, g, q⟩
  cases (show u = Value.ref a from ry)
  exact dg_in hw hu I g rx fun s' I' => ⟨.bl _, H, I', rfl, by rw [Bool.false_xor] at q; exact q⟩
theorem op_notInDict (hw : X.w = TheW.w) (hu : X.A.units + 16 < cLine) : OpR X (compareOp .NotIn) (rInDict X.K true) := by
  rintro pins s σ H x y v u Q I rx ry ⟨a, o, rfl, g, q⟩
  cases (show u = Value.ref a from ry)
  exact dg_notIn hw hu I g rx fun s' I' => ⟨.bl _, H, I', rfl, by rw [Bool.true_xor] at q; exact q⟩
end
theorem fzo_some {K : PySem.W.Frag} {H : Hp} {O : Addr → Prop} {ov : Option V} {o : Option D} (h : FzO K H O ov o) : ov.isSome = o.isSome := by
  cases ov <;> cases o <;> first | rfl | exact h.elim
def inD : D → D → Option Bool
  | d, .list ds => if SeqAt.shaped d = true ∧ SeqAt.shaped (.list ds) = true then some (ds.any fun z => PyData.eqv z d) else none
  | d, .tuple ds => if SeqAt.shaped d = true ∧ SeqAt.shaped (.tuple ds) = true then some (ds.any fun z => PyData.eqv z d) else none
  | .str x, .str y => some (inStr x y)
  | d, .dict kvs => (dGet kvs d).map Option.isSome
  | _, _ => none
def gIn : D → D → Option RV := fun d e => (inD d e).map fun b => .d (.bool b)
def gNotIn : D → D → Option RV := fun d e => (inD d e).map fun b => .d (.bool (!b))
def rInA (K : PySem.W.Frag) : R2 := rOr (rInD K) (rOr (rInT K false) (rOr (fun x y H Q => ∃ i j, x = .str i ∧ y = .str j ∧ Q (.bl (!(Builtin.Str.occurrences j i 0 j.length 1).isEmpty)) H) (rInDict K false)))
def rNotInA (K : PySem.W.Frag) : R2 := rOr (rNotInD K) (rOr (rInT K true) (rOr (fun x y H Q => ∃ i j, x = .str i ∧ y = .str j ∧ Q (.bl (!(!(Builtin.Str.occurrences j i 0 j.length 1).isEmpty))) H) (rInDict K true)))
theorem op2_in {K : PySem.W.Frag} : Op2 K (rInA K) gIn := by
  intro H O x y d e z Q tr hx hy g k
  obtain ⟨b, hb, rfl⟩ := Option.map_eq_some_iff.mp g
  cases e with
  | list ds =>
    have hb : (if SeqAt.shaped d = true ∧ SeqAt.shaped (.list ds) = true then some (ds.any fun z => PyData.eqv z d) else none) = some b := by cases d <;> exact hb
    split at hb
    · rename_i hc
      cases hb
      exact .inl ⟨d, ds, lk_dp (lay_of hc.1) hx, lk_dp (lay_of hc.2) hy, hc.1, hc.2, k _ _ _ (.same tr (.bl _))⟩
    · cases hb
  | tuple ds =>
    have hb : (if SeqAt.shaped d = true ∧ SeqAt.shaped (.tuple ds) = true then some (ds.any fun z => PyData.eqv z d) else none) = some b := by cases d <;> exact hb
    split at hb
    · rename_i hc
      cases hb
      exact .inr (.inl ⟨d, ds, lk_dp (lay_of hc.1) hx, lk_dp (lay_of hc.2) hy, hc.1, hc.2, k _ _ _ (.same tr (.bl _))⟩)
    · cases hb
  | str t =>
    cases d <;> cases hb
    cases lk_str hx; cases lk_str hy
    exact .inr (.inr (.inl ⟨_, _, rfl, rfl, k _ _ _ (.same tr (.bl _))⟩))
  | none => cases d <;> cases hb
  | bool _ => cases d <;> cases hb
  | int _ => cases d <;> cases hb
  | dict kvs =>
    obtain ⟨o, h1, rfl⟩ := Option.map_eq_some_iff.mp (show (dGet kvs d).map Option.isSome = some b by cases d <;> exact hb)
    obtain ⟨a, ov, rfl, h2, h3⟩ := lk_dget hy hx h1
    exact .inr (.inr (.inr ⟨a, ov, rfl, h2, by rw [fzo_some h3, Bool.false_xor]; exact k _ _ _ (.same tr (.bl _))⟩))
theorem op2_notIn {K : PySem.W.Frag} : Op2 K (rNotInA K) gNotIn := by
  intro H O x y d e z Q tr hx hy g k
  obtain ⟨b, hb, rfl⟩ := Option.map_eq_some_iff.mp g
  cases e with
  | list ds =>
    have hb : (if SeqAt.shaped d = true ∧ SeqAt.shaped (.list ds) = true then some (ds.any fun z => PyData.eqv z d) else none) = some b := by cases d <;> exact hb
    split at hb
    · rename_i hc
      cases hb
      exact .inl ⟨d, ds, lk_dp (lay_of hc.1) hx, lk_dp (lay_of hc.2) hy, hc.1, hc.2, k _ _ _ (.same tr (.bl _))⟩
    · cases hb
  | tuple ds =>
    have hb : (if SeqAt.shaped d = true ∧ SeqAt.shaped (.tuple ds) = true then some (ds.any fun z => PyData.eqv z d) else none) = some b := by cases d <;> exact hb
    split at hb
    · rename_i hc
      cases hb
      exact .inr (.inl ⟨d, ds, lk_dp (lay_of hc.1) hx, lk_dp (lay_of hc.2) hy, hc.1, hc.2, k _ _ _ (.same tr (.bl _))⟩)
    · cases hb
  | str t =>
    cases d <;> cases hb
    cases lk_str hx; cases lk_str hy
    exact .inr (.inr (.inl ⟨_, _, rfl, rfl, k _ _ _ (.same tr (.bl _))⟩))
  | none => cases d <;> cases hb
  | bool _ => cases d <;> cases hb
  | int _ => cases d <;> cases hb
  | dict kvs =>
    obtain ⟨o, h1, rfl⟩ := Option.map_eq_some_iff.mp (show (dGet kvs d).map Option.isSome = some b by cases d <;> exact hb)
    obtain ⟨a, ov, rfl, h2, h3⟩ := lk_dget hy hx h1
    exact .inr (.inr (.inr ⟨a, ov, rfl, h2, by rw [fzo_some h3, Bool.true_xor]; exact k _ _ _ (.same tr (.bl _))⟩))
theorem p_in (hu : X.A.units + 65 < cLine) (ha : PE X a (tE X.K ma)) (hb : PE X b (tE X.K mb)) (hm : behindInMarks .In b = false := by rfl) (hw : X.w = TheW.w := by rfl) : PE X (.Compare a [.In] [b] pos) (tE X.K (m2 gIn ma mb)) :=
  p_cmp (op_or2 (op_inD hu) (op_or2 (op_inT hu) (op_or2 op_in_str (op_inDict hw (by omega))))) op2_in ha hb hm
theorem p_notin (hu : X.A.units + 65 < cLine) (ha : PE X a (tE X.K ma)) (hb : PE X b (tE X.K mb)) (hm : behindInMarks .NotIn b = false := by rfl) (hw : X.w = TheW.w := by rfl) : PE X (.Compare a [.NotIn] [b] pos) (tE X.K (m2 gNotIn ma mb)) :=
  p_cmp (op_or2 (op_notInD hu) (op_or2 (op_notInT hu) (op_or2 op_notin_str (op_notInDict hw (by omega))))) op2_notIn ha hb hm
end
end PL

/-! PL3: tests, displays, items and slices, statements. -/
namespace PL
open PySem PySem.Spec PyProof.Rows L2
variable [TheW]

section
variable {X : Cx} {e a b c : Expr} {es rest : List Expr} {m ma mb mc : ME} {mt mu : MT} {pos : Pos}
/-! ### tests -/
def mB (m : ME) : MT := fun ρ => (m ρ).bind fun p => match look p.2 p.1 with
  | some (.bool b) => some (b, p.2)
  | _ => none
theorem tB_of : ∀ σ H Q, tT X.K (mB m) σ H Q → tE X.K m σ H fun x H1 => ∃ c, x = .bl c ∧ Q c H1 := by
  intro σ H Q ⟨ρ, O, b, ρ', E, e1, k⟩
  obtain ⟨⟨r, ρ1⟩, e2, e3⟩ := Option.bind_eq_some_iff.mp e1
  dsimp only at e3
  split at e3
  · rename_i b' hl
    cases e3
    exact ⟨ρ, O, r, _, E, e2, fun x H' O' E' S R => ⟨_, lk_bl (look_ok E' R hl), k H' O' E' S⟩⟩
  · cases e3
theorem q_val (h : PE X e (tE X.K m)) (he : ∀ whole, isTrue e X.env whole = (do let v ← whole; standAt e.pos; holding [v] (truthy v)) := by intro _; rfl) : PT X e (tT X.K (mB m)) := PT.of (pt_val h he) tB_of
theorem q_cmp {op : CmpOp} {r : R2} {g : D → D → Option RV} (ho : OpR X (compareOp op) r) (hg : Op2 X.K r g) (ha : PE X a (tE X.K ma)) (hb : PE X b (tE X.K mb)) (hm : behindInMarks op b = false) : PT X (.Compare a [op] [b] pos) (tT X.K (mB (m2 g ma mb))) :=
  PT.of (pt_cmpR ho ha hb hm) fun σ H Q h => t2_ok hg σ H _ (tB_of σ H Q h)
theorem q_lt (ha : PE X a (tE X.K ma)) (hb : PE X b (tE X.K mb)) : PT X (.Compare a [.Lt] [b] pos) (tT X.K (mB (m2 gLt ma mb))) := q_cmp op_lt (op2_I0 fun _ _ _ _ => .bl _) ha hb (nobehind _ (by decide) (by decide))
theorem q_gt (ha : PE X a (tE X.K ma)) (hb : PE X b (tE X.K mb)) : PT X (.Compare a [.Gt] [b] pos) (tT X.K (mB (m2 gGt ma mb))) := q_cmp op_gt (op2_I0 fun _ _ _ _ => .bl _) ha hb (nobehind _ (by decide) (by decide))
theorem q_eq (hu : X.A.units + 64 < cLine) (ha : PE X a (tE X.K ma)) (hb : PE X b (tE X.K mb)) : PT X (.Compare a [.Eq] [b] pos) (tT X.K (mB (m2 gEq ma mb))) := q_cmp (op_or2 op_eq (op_eqD hu)) op2_eq ha hb (nobehind _ (by decide) (by decide))
theorem q_ne (hu : X.A.units + 64 < cLine) (ha : PE X a (tE X.K ma)) (hb : PE X b (tE X.K mb)) : PT X (.Compare a [.NotEq] [b] pos) (tT X.K (mB (m2 gNe ma mb))) := q_cmp (op_or2 op_ne (op_neD hu)) op2_ne ha hb (nobehind _ (by decide) (by decide))
theorem q_in (hu : X.A.units + 65 < cLine) (ha : PE X a (tE X.K ma)) (hb : PE X b (tE X.K mb)) (hm : behindInMarks .In b = false := by rfl) (hw : X.w = TheW.w := by rfl) : PT X (.Compare a [.In] [b] pos) (tT X.K (mB (m2 gIn ma mb))) :=
  q_cmp (op_or2 (op_inD hu) (op_or2 (op_inT hu) (op_or2 op_in_str (op_inDict hw (by omega))))) op2_in ha hb hm
theorem q_notin (hu : X.A.units + 65 < cLine) (ha : PE X a (tE X.K ma)) (hb : PE X b (tE X.K mb)) (hm : behindInMarks .NotIn b = false := by rfl) (hw : X.w = TheW.w := by rfl) : PT X (.Compare a [.NotIn] [b] pos) (tT X.K (mB (m2 gNotIn ma mb))) :=
  q_cmp (op_or2 (op_notInD hu) (op_or2 (op_notInT hu) (op_or2 op_notin_str (op_notInDict hw (by omega))))) op2_notIn ha hb hm
/-- a op b op' c of ints and so on -/
def mChain (g g' : D → D → Option RV) (ma mb mc : ME) : ME := fun ρ => (ma ρ).bind fun p => (mb p.2).bind fun q => (look q.2 p.1).bind fun d => (look q.2 q.1).bind fun e => match g d e with
  | some (.d (.bool true)) => (mc q.2).bind fun s => (look s.2 q.1).bind fun e' => (look s.2 s.1).bind fun f => (g' e' f).map fun z => (z, s.2)
  | some (.d (.bool false)) => some (.d (.bool false), q.2)
  | _ => none
theorem tChain_of {r r' : R2} {g g' : D → D → Option RV} (hg : Op2 X.K r g) (hg' : Op2 X.K r' g') : ∀ σ H Q, tE X.K (mChain g g' ma mb mc) σ H Q → tChain r r' (tE X.K ma) (tE X.K mb) (tE X.K mc) σ H Q := by
  intro σ H Q ⟨ρ, O, z, ρ', E, e1, k⟩
  obtain ⟨⟨r1, ρ1⟩, h1, e1⟩ := Option.bind_eq_some_iff.mp e1
  obtain ⟨⟨r2, ρ2⟩, h2, e1⟩ := Option.bind_eq_some_iff.mp e1
  obtain ⟨d, h3, e1⟩ := Option.bind_eq_some_iff.mp e1
  obtain ⟨e, h4, e1⟩ := Option.bind_eq_some_iff.mp e1
  dsimp only at e1
  refine ⟨ρ, O, r1, ρ1, E, h1, fun x H1 O1 E1 S1 R1 => ⟨ρ1, O1, r2, ρ2, E1, h2, fun y H2 O2 E2 S2 R2 => ?_⟩⟩
  cases hgd : g d e with
  | none => rw [hgd] at e1; cases e1
  | some z0 =>
    rw [hgd] at e1
    refine hg H2 O2 x y d e z0 _ E2.tr (look_ok E2 (R1.stp E1 S2) h3) (look_ok E2 R2 h4) hgd fun v H3 O3 R3 => ?_
    obtain ⟨E3, S3, V3⟩ := R3.done E2
    cases z0 with
    | al i => cases e1
    | nl o => cases e1
    | ob C fs => cases e1
    | d q =>
      cases q with
      | bool t =>
        have hv : v = .bl t := by cases (show Fz X.K H3 O3 v (.bool t) from V3); rfl
        refine ⟨t, hv, ?_⟩
        cases t with
        | false =>
          cases e1
          rw [if_neg Bool.false_ne_true]
          exact k (.bl false) H3 O3 E3 (Stp.trans E.tr S1 (Stp.trans E1.tr S2 S3)) (.bl false)
        | true =>
          rw [if_pos rfl]
          obtain ⟨⟨r3, ρ3⟩, h5, e1⟩ := Option.bind_eq_some_iff.mp e1
          obtain ⟨e', h6, e1⟩ := Option.bind_eq_some_iff.mp e1
          obtain ⟨f, h7, e1⟩ := Option.bind_eq_some_iff.mp e1
          obtain ⟨z', h8, e1⟩ := Option.map_eq_some_iff.mp e1
          cases e1
          refine ⟨ρ2, O3, r3, _, E3, h5, fun w H4 O4 E4 S4 R4 => ?_⟩
          have S12 := Stp.trans E.tr S1 (Stp.trans E1.tr S2 S3)
          refine hg' H4 O4 y w e' f z Q E4.tr (look_ok E4 ((R2.stp E2 S3).stp E3 S4) h6) (look_ok E4 R4 h7) h8 fun v' H5 O5 R5 => ?_
          obtain ⟨E5, S5, V5⟩ := R5.done E4
          exact k v' H5 O5 E5 (Stp.trans E.tr S12 (Stp.trans E3.tr S4 S5)) (V5.back fun a h => S4.there a (S12.there a h))
      | _ => cases e1
theorem p_chain {op op' : CmpOp} {r r' : R2} {g g' : D → D → Option RV} (ho : OpR X (compareOp op) r) (ho' : OpR X (compareOp op') r') (hg : Op2 X.K r g) (hg' : Op2 X.K r' g') (ha : PE X a (tE X.K ma)) (hb : PE X b (tE X.K mb)) (hc : PE X c (tE X.K mc))
    (hm : lastMarks [op, op'] [b, c] = false := by with_unfolding_all rfl) : PE X (.Compare a [op, op'] [b, c] pos) (tE X.K (mChain g g' ma mb mc)) := PE.of (pe_chain ho ho' ha hb hc hm) (tChain_of hg hg')
theorem q_chain {op op' : CmpOp} {r r' : R2} {g g' : D → D → Option RV} (ho : OpR X (compareOp op) r) (ho' : OpR X (compareOp op') r') (hg : Op2 X.K r g) (hg' : Op2 X.K r' g') (ha : PE X a (tE X.K ma)) (hb : PE X b (tE X.K mb)) (hc : PE X c (tE X.K mc))
    (hm : lastMarks [op, op'] [b, c] = false := by with_unfolding_all rfl) : PT X (.Compare a [op, op'] [b, c] pos) (tT X.K (mB (mChain g g' ma mb mc))) :=
  PT.of (pt_chain ho ho' ha hb hc hm) fun σ H Q h => tChain_of hg hg' σ H _ (tB_of σ H Q h)
def kLe : Op2 X.K (rI0 fun i j => .bl (decide (i ≤ j))) gLe := op2_I0 fun _ _ _ _ => .bl _
def mAnd (t u : MT) : MT := fun ρ => (t ρ).bind fun p => if p.1 = true then u p.2 else some (false, p.2)
def mOr (t u : MT) : MT := fun ρ => (t ρ).bind fun p => if p.1 = true then some (true, p.2) else u p.2
def mNot (t : MT) : MT := fun ρ => (t ρ).map fun p => (!p.1, p.2)
theorem PW.of {e : Expr} {t t' : TT} (h : PW X e t) (i : ∀ σ H Q, t' σ H Q → t σ H Q) : PW X e t' := ⟨fun wh pins s σ H Q I q => h.run wh pins s σ H Q I (i σ H Q q)⟩
theorem tAnd_of : ∀ σ H Q, tT X.K (mAnd mt mu) σ H Q → tAnd (tT X.K mt) (tT X.K mu) σ H Q := by
  intro σ H Q ⟨ρ, O, b, ρ', E, e1, k⟩
  obtain ⟨⟨b1, ρ1⟩, e2, e3⟩ := Option.bind_eq_some_iff.mp e1
  refine ⟨ρ, O, b1, ρ1, E, e2, fun H1 O1 E1 S1 => ?_⟩
  cases b1 with
  | true =>
    rw [if_pos rfl]
    exact ⟨ρ1, O1, b, ρ', E1, e3, fun H2 O2 E2 S2 => k H2 O2 E2 (Stp.trans E.tr S1 S2)⟩
  | false =>
    rw [if_neg Bool.false_ne_true]
    cases e3
    exact k H1 O1 E1 S1
theorem tOr_of : ∀ σ H Q, tT X.K (mOr mt mu) σ H Q → tOr (tT X.K mt) (tT X.K mu) σ H Q := by
  intro σ H Q ⟨ρ, O, b, ρ', E, e1, k⟩
  obtain ⟨⟨b1, ρ1⟩, e2, e3⟩ := Option.bind_eq_some_iff.mp e1
  refine ⟨ρ, O, b1, ρ1, E, e2, fun H1 O1 E1 S1 => ?_⟩
  cases b1 with
  | false =>
    rw [if_neg Bool.false_ne_true]
    exact ⟨ρ1, O1, b, ρ', E1, e3, fun H2 O2 E2 S2 => k H2 O2 E2 (Stp.trans E.tr S1 S2)⟩
  | true =>
    rw [if_pos rfl]
    cases e3
    exact k H1 O1 E1 S1
theorem w_and1 (ha : PT X a (tT X.K mt)) : PW X (.BoolOp .And [a] pos) (tT X.K mt) := pw_and1 ha
theorem w_or1 (ha : PT X a (tT X.K mt)) : PW X (.BoolOp .Or [a] pos) (tT X.K mt) := pw_or1 ha
theorem w_and (ha : PT X a (tT X.K mt)) (hb : PW X (.BoolOp .And (b :: rest) pos) (tT X.K mu)) : PW X (.BoolOp .And (a :: b :: rest) pos) (tT X.K (mAnd mt mu)) := PW.of (pw_and ha hb) tAnd_of
theorem w_or (ha : PT X a (tT X.K mt)) (hb : PW X (.BoolOp .Or (b :: rest) pos) (tT X.K mu)) : PW X (.BoolOp .Or (a :: b :: rest) pos) (tT X.K (mOr mt mu)) := PW.of (pw_or ha hb) tOr_of
theorem q_w {t : MT} (h : PW X e (tT X.K t)) : PT X e (tT X.K t) := h.pt
theorem q_not (ha : PT X a (tT X.K mt)) : PT X (.UnaryOp .Not a pos) (tT X.K (mNot mt)) := PT.of (pt_not ha) fun σ H Q ⟨ρ, O, b, ρ', E, e1, k⟩ => by
  obtain ⟨⟨b1, ρ1⟩, e2, e3⟩ := Option.map_eq_some_iff.mp e1
  cases e3
  exact ⟨ρ, O, b1, _, E, e2, fun H1 O1 E1 S1 => k H1 O1 E1 S1⟩
/-- .. as values, of truths -/
def mAndV (ma mb : ME) : ME := fun ρ => (mB ma ρ).bind fun p => if p.1 = true then mb p.2 else some (.d (.bool false), p.2)
def mOrV (ma mb : ME) : ME := fun ρ => (mB ma ρ).bind fun p => if p.1 = true then some (.d (.bool true), p.2) else mb p.2
def mNotV (ma : ME) : ME := fun ρ => (mB ma ρ).map fun p => (.d (.bool (!p.1)), p.2)
theorem p_one {op} (h : PE X a (tE X.K ma)) : PE X (.BoolOp op [a] pos) (tE X.K ma) := pe_one h
theorem p_and (ha : PE X a (tE X.K ma)) (hb : PE X (.BoolOp .And (b :: rest) pos) (tE X.K mb)) : PE X (.BoolOp .And (a :: b :: rest) pos) (tE X.K (mAndV ma mb)) := PE.of (pe_and ha hb) fun σ H Q ⟨ρ, O, z, ρ', E, e1, k⟩ => by
  obtain ⟨⟨b1, ρ1⟩, e2, e3⟩ := Option.bind_eq_some_iff.mp e1
  refine tB_of (m := ma) σ H (fun c H1 => if c = true then tE X.K mb σ H1 Q else Q (.bl false) H1) ⟨ρ, O, b1, ρ1, E, e2, fun H1 O1 E1 S1 => ?_⟩
  cases b1 with
  | true =>
    rw [if_pos rfl]
    exact ⟨ρ1, O1, z, ρ', E1, e3, fun x H2 O2 E2 S2 R2 => k x H2 O2 E2 (Stp.trans E.tr S1 S2) (R2.back S1.there)⟩
  | false =>
    rw [if_neg Bool.false_ne_true]
    cases e3
    exact k _ H1 O1 E1 S1 (.bl false)
theorem p_or (ha : PE X a (tE X.K ma)) (hb : PE X (.BoolOp .Or (b :: rest) pos) (tE X.K mb)) : PE X (.BoolOp .Or (a :: b :: rest) pos) (tE X.K (mOrV ma mb)) := PE.of (pe_or ha hb) fun σ H Q ⟨ρ, O, z, ρ', E, e1, k⟩ => by
  obtain ⟨⟨b1, ρ1⟩, e2, e3⟩ := Option.bind_eq_some_iff.mp e1
  refine tB_of (m := ma) σ H (fun c H1 => if c = true then Q (.bl true) H1 else tE X.K mb σ H1 Q) ⟨ρ, O, b1, ρ1, E, e2, fun H1 O1 E1 S1 => ?_⟩
  cases b1 with
  | false =>
    rw [if_neg Bool.false_ne_true]
    exact ⟨ρ1, O1, z, ρ', E1, e3, fun x H2 O2 E2 S2 R2 => k x H2 O2 E2 (Stp.trans E.tr S1 S2) (R2.back S1.there)⟩
  | true =>
    rw [if_pos rfl]
    cases e3
    exact k _ H1 O1 E1 S1 (.bl true)
def mIf (t : MT) (ma mb : ME) : ME := fun ρ => (t ρ).bind fun p => if p.1 = true then ma p.2 else mb p.2
theorem p_if (hc : PT X c (tT X.K mt)) (ha : PE X a (tE X.K ma)) (hb : PE X b (tE X.K mb)) : PE X (.IfExp c a b pos) (tE X.K (mIf mt ma mb)) := PE.of (pe_ifExp hc ha hb) fun σ H Q ⟨ρ, O, z, ρ', E, e1, k⟩ => by
  obtain ⟨⟨b1, ρ1⟩, e2, e3⟩ := Option.bind_eq_some_iff.mp e1
  refine ⟨ρ, O, b1, ρ1, E, e2, fun H1 O1 E1 S1 => ?_⟩
  cases b1 with
  | true =>
    rw [if_pos rfl]
    exact ⟨ρ1, O1, z, ρ', E1, e3, fun x H2 O2 E2 S2 R2 => k x H2 O2 E2 (Stp.trans E.tr S1 S2) (R2.back S1.there)⟩
  | false =>
    rw [if_neg Bool.false_ne_true]
    exact ⟨ρ1, O1, z, ρ', E1, e3, fun x H2 O2 E2 S2 R2 => k x H2 O2 E2 (Stp.trans E.tr S1 S2) (R2.back S1.there)⟩

/-! ### displays -/
def mTup (ms : MDs) : ME := fun ρ => (ms ρ).bind fun p => if p.1.length ≤ sizeLine then some (.d (.tuple p.1), p.2) else none
def mLst (ms : MDs) : ME := fun ρ => (ms ρ).bind fun p => if p.1.length ≤ sizeLine then some (.nl (.L p.1), p.2) else none
theorem p_tup {ms : MDs} {x1} (h : PA X es (tDs X.K ms)) : PE X (.Tuple es x1 pos) (tE X.K (mTup ms)) := PE.of (pe_tupF h) fun σ H Q ⟨ρ, O, z, ρ', E, e1, k⟩ => by
  obtain ⟨⟨ds, ρ1⟩, e2, e3⟩ := Option.bind_eq_some_iff.mp e1
  dsimp only at e3
  split at e3
  · rename_i hz
    cases e3
    refine ⟨ρ, O, ds, _, E, e2, fun xs H1 O1 E1 S1 F1 => ⟨by rw [F1.length]; exact hz, fun p ob n od => ?_⟩⟩
    obtain ⟨E3, S3, V3⟩ := (ResOk.tup E1.tr n od F1).done E1
    exact k _ _ _ E3 (Stp.trans E.tr S1 S3) (V3.back S1.there)
  · cases e3
theorem p_lst {ms : MDs} (h : PA X es (tDs X.K ms)) : PE X (.List es pos) (tE X.K (mLst ms)) := PE.of (pe_lst h) fun σ H Q ⟨ρ, O, z, ρ', E, e1, k⟩ => by
  obtain ⟨⟨ds, ρ1⟩, e2, e3⟩ := Option.bind_eq_some_iff.mp e1
  dsimp only at e3
  split at e3
  · rename_i hz
    cases e3
    refine ⟨ρ, O, ds, _, E, e2, fun xs H1 O1 E1 S1 F1 => ⟨by rw [F1.length]; exact hz, fun p n => ?_⟩⟩
    obtain ⟨E3, S3, V3⟩ := (ResOk.lst E1.tr n F1).done E1
    exact k _ _ _ E3 (Stp.trans E.tr S1 S3) (V3.back S1.there)
  · cases e3

/-! ### items, slices -/
theorem FzAll.at {K : PySem.W.Frag} {H : Hp} {O : Addr → Prop} {xs : List V} {ds : List D} {i : Int} {d : D} (h : FzAll K H O xs ds) (e : atI ds i = some d) : ∃ x, atI xs i = some x ∧ Fz K H O x d := by
  unfold atI at e ⊢
  rw [h.length]
  obtain ⟨j, e1, e2⟩ := Option.bind_eq_some_iff.mp e
  rw [e1]
  exact h.get e2
def gIx : D → D → Option RV
  | .list ds, .int i => (atI ds i).map .d
  | .tuple ds, .int i => (atI ds i).map .d
  | .str z, .int i => if z.length ≤ sizeLine then (atI z.cps.toList i).map fun c => .d (.str ⟨#[c]⟩) else none
  | .dict kvs, k => (dGet kvs k).bind fun o => o.map .d
  | _, _ => none
def rIxDict (K : PySem.W.Frag) : R2 := fun x y H Q => ∃ a v, x = .ref a ∧ Dg K H a y (some v) ∧ Q v H
theorem ix_dict {X : Cx} (hw : X.w = TheW.w) (hu : X.A.units + 16 < cLine) : IxR X (rIxDict X.K) := by
  intro value slice pins s σ H x y v u Q I rx ry h hs
  obtain ⟨a, z, rfl, g, q⟩ := h
  cases (show v = Value.ref a from rx)
  have go : wpAny (model X.prog X.w) X.A (getItem (.ref a) u) (EP X pins σ Q) X.xe s := by
    rcases g with g | ⟨es, k, b, rfl, t, hk, e⟩
    · exact d_getItem (by omega) I g ry fun w' s' I' r' => ⟨z, H, I', r', q⟩
    · cases (show u = Value.ref b from ry)
      exact t_getItem hw hu I t hk e.symm fun w' s' I' r' => ⟨z, H, I', r', q⟩
  have ty : s.TypeIs (.ref a) "dict" := by
    rcases g with g | ⟨es, k, b, _, t, _, _⟩
    · exact dict_typeIs I g
    · obtain ⟨_, _, xs, _, dd⟩ := tt_of hw I t
      exact dd.typeIs
  exact tail_any ty slot_dict_getitem.lookup go hs
def rIxA (K : PySem.W.Frag) : R2 := rOr (rIx K) (rIxDict K)
theorem op2_ix0 {K : PySem.W.Frag} {kvs : List (D × D)} {e : D} {H : Hp} {O : Addr → Prop} {x y : V} {z : RV} {Q : VK} (tr : ∀ a, O a → H a ≠ none) (hx : Lk K H O x (.dict kvs)) (hy : Lk K H O y e) (g : ((dGet kvs e).bind fun o => o.map RV.d) = some z)
    (k : ∀ v H' O', ResOk K H O H' O' v z → Q v H') : rIxDict K x y H Q := by
  obtain ⟨o, h1, h2⟩ := Option.bind_eq_some_iff.mp g
  obtain ⟨d, rfl, rfl⟩ := Option.map_eq_some_iff.mp h2
  obtain ⟨a, ov, rfl, h3, h4⟩ := lk_dget hx hy h1
  cases ov with
  | none => exact h4.elim
  | some v => exact ⟨a, v, rfl, h3, k _ _ _ (.same tr h4)⟩
theorem op2_ix {K : PySem.W.Frag} : Op2 K (rIxA K) gIx := by
  intro H O x y d e z Q tr hx hy g k
  cases d with
  | list ds =>
    cases e <;> try cases g
    rename_i i
    obtain ⟨d', e1, rfl⟩ := Option.map_eq_some_iff.mp (show (atI ds i).map RV.d = some z from g)
    obtain ⟨a, xs, rfl, h1, h2⟩ := lk_list hx
    obtain ⟨v, e2, f⟩ := h2.at e1
    exact .inl <| .inl ⟨a, xs, i, v, rfl, lk_int hy, h1, e2, k _ _ _ (.same tr f)⟩
  | tuple ds =>
    cases e <;> try cases g
    rename_i i
    obtain ⟨d', e1, rfl⟩ := Option.map_eq_some_iff.mp (show (atI ds i).map RV.d = some z from g)
    obtain ⟨a, xs, rfl, h1, h2, _⟩ := lk_tup hx
    obtain ⟨v, e2, f⟩ := h2.at e1
    exact .inl <| .inr (.inl ⟨a, xs, i, v, rfl, lk_int hy, h1, e2, k _ _ _ (.same tr f)⟩)
  | str t =>
    cases e <;> try cases g
    rename_i i
    have g : (if t.length ≤ sizeLine then (atI t.cps.toList i).map fun c => RV.d (.str ⟨#[c]⟩) else none) = some z := g
    split at g
    · rename_i hz
      obtain ⟨c, e1, rfl⟩ := Option.map_eq_some_iff.mp g
      exact .inl <| .inr (.inr ⟨t, i, c, lk_str hx, lk_int hy, hz, e1, k _ _ _ (.same tr (.str _))⟩)
    · cases g
  | dict kvs => exact .inr (op2_ix0 tr hx hy (by cases e <;> exact g) k)
  | _ => cases e <;> cases g
theorem p_ix (hu : X.A.units + 65 < cLine) (ha : PE X a (tE X.K ma)) (hb : PE X b (tE X.K mb)) (hs : PlainIx b := by exact fun _ _ => rfl) (hw : X.w = TheW.w := by rfl) : PE X (.Subscript a b pos) (tE X.K (m2 gIx ma mb)) := PE.of (pe_ix (ix_seq.or (ix_dict hw (by omega))) ha hb hs) (t2_ok op2_ix)
/-- a slice's part -/
abbrev MO := Ev → Option (Option Int × Ev)
def tO (K : PySem.W.Frag) (m : MO) : TO := fun σ H Q => ∃ ρ O o ρ', EnvOk K H O σ ρ ∧ m ρ = some (o, ρ') ∧ ∀ H' O', EnvOk K H' O' σ ρ' → Stp σ ρ O H σ ρ' O' H' → Q o H'
theorem PO.of {e : Option Expr} {t t' : TO} (h : PO X e t) (i : ∀ σ H Q, t' σ H Q → t σ H Q) : PO X e t' := ⟨fun pins s σ H Q I q => h.run pins s σ H Q I (i σ H Q q)⟩
def mONone : MO := fun ρ => some (none, ρ)
def mOSome (m : ME) : MO := fun ρ => (m ρ).bind fun p => match look p.2 p.1 with
  | some (.int i) => some (some i, p.2)
  | _ => none
theorem o_none : PO X none (tO X.K mONone) := PO.of po_none fun σ H Q ⟨ρ, O, o, ρ', E, e1, k⟩ => by
  cases e1
  exact k H O E .refl
theorem o_some (h : PE X e (tE X.K m)) : PO X (some e) (tO X.K (mOSome m)) := PO.of (po_some h) fun σ H Q ⟨ρ, O, o, ρ', E, e1, k⟩ => by
  obtain ⟨⟨r, ρ1⟩, e2, e3⟩ := Option.bind_eq_some_iff.mp e1
  dsimp only at e3
  split at e3
  · rename_i i hl
    cases e3
    exact ⟨ρ, O, r, _, E, e2, fun x H1 O1 E1 S1 R1 => ⟨i, lk_int (look_ok E1 R1 hl), k H1 O1 E1 S1⟩⟩
  · cases e3
def cutD (xs : List D) (lo hi : Option Int) : List D := (xs.drop (HT.sIx xs.length 0 lo)).take (HT.sIx xs.length xs.length hi - HT.sIx xs.length 0 lo)
theorem FzAll.cut {K : PySem.W.Frag} {H : Hp} {O : Addr → Prop} {xs : List V} {ds : List D} {lo hi : Option Int} (h : FzAll K H O xs ds) : FzAll K H O (cutV xs lo hi) (cutD ds lo hi) := by
  unfold cutV cutD
  rw [h.length]
  exact (h.drop _).take _
def gSl : D → Option Int → Option Int → Option RV
  | .list ds, lo, hi => some (.nl (.L (cutD ds lo hi)))
  | .tuple ds, lo, hi => some (.d (.tuple (cutD ds lo hi)))
  | .str z, lo, hi => if z.length ≤ sizeLine then some (.d (.str (cutS z lo hi))) else none
  | _, _, _ => none
def mSl (ma : ME) (lo hi : MO) : ME := fun ρ => (ma ρ).bind fun p => (lo p.2).bind fun l => (hi l.2).bind fun u => (look u.2 p.1).bind fun d => (gSl d l.1 u.1).map fun z => (z, u.2)
theorem cut_whole {xs : List D} {lo hi : Option Int} (h : HT.sIx xs.length 0 lo = 0 ∧ HT.sIx xs.length xs.length hi = xs.length) : cutD xs lo hi = xs := by
  unfold cutD
  rw [h.1, h.2]
  simp
theorem p_sl {lo hi : Option Expr} {ml mh : MO} {p2 : Pos} (ha : PE X a (tE X.K ma)) (hl : PO X lo (tO X.K ml)) (hu : PO X hi (tO X.K mh)) : PE X (.Subscript a (.Slice lo hi none p2) pos) (tE X.K (mSl ma ml mh)) :=
  PE.of (pe_slice (sl_list.or (sl_tupF.or sl_str)) ha hl hu) fun σ H Q ⟨ρ, O, z, ρ', E, e1, k⟩ => by
    obtain ⟨⟨r1, ρ1⟩, h1, e1⟩ := Option.bind_eq_some_iff.mp e1
    obtain ⟨⟨l, ρ2⟩, h2, e1⟩ := Option.bind_eq_some_iff.mp e1
    obtain ⟨⟨u, ρ3⟩, h3, e1⟩ := Option.bind_eq_some_iff.mp e1
    obtain ⟨d, h4, e1⟩ := Option.bind_eq_some_iff.mp e1
    obtain ⟨z', h5, e1⟩ := Option.map_eq_some_iff.mp e1
    cases e1
    refine ⟨ρ, O, r1, ρ1, E, h1, fun x H1 O1 E1 S1 R1 => ⟨ρ1, O1, l, ρ2, E1, h2, fun H2 O2 E2 S2 => ⟨ρ2, O2, u, _, E2, h3, fun H3 O3 E3 S3 => ?_⟩⟩⟩
    have S := Stp.trans E.tr S1 (Stp.trans E1.tr S2 S3)
    have L := look_ok E3 ((R1.stp E1 S2).stp E2 S3) h4
    have fin : ∀ v H4 O4, ResOk X.K H3 O3 H4 O4 v z → Q v H4 := fun v H4 O4 R4 => by
      obtain ⟨E4, S4, V4⟩ := R4.done E3
      exact k v H4 O4 E4 (Stp.trans E.tr S S4) (V4.back S.there)
    cases d with
    | list ds =>
      cases h5
      obtain ⟨a, xs, rfl, g1, g2⟩ := lk_list L
      exact .inl ⟨a, xs, rfl, g1, fun p n => fin _ _ _ (.lst E3.tr n g2.cut)⟩
    | tuple ds =>
      cases h5
      obtain ⟨a, xs, rfl, g1, g2, g3⟩ := lk_tup L
      refine .inr (.inl ⟨a, xs, rfl, g1, fun w => ?_, fun _ p ob n od => fin _ _ _ (.tup E3.tr n od g2.cut)⟩)
      rw [g2.length] at w
      refine fin _ _ _ (.same E3.tr ?_)
      rw [cut_whole w]
      exact g3
    | str t =>
      have h5 : (if t.length ≤ sizeLine then some (RV.d (.str (cutS t l u))) else none) = some z := h5
      split at h5
      · rename_i hz
        cases h5
        exact .inr (.inr ⟨t, lk_str L, hz, fin _ _ _ (.same E3.tr (.str _))⟩)
      · cases h5
    | _ => cases h5
end
end PL

/-! PL4: statements; defs and their calls. -/
namespace PL
open PySem PySem.Spec PyProof.Rows L2
variable [TheW]

/-! ### slots stored -/
section
variable {K : PySem.W.Frag} {H H' H0 : Hp} {O O' O0 : Addr → Prop} {σ σ0 : L2.St} {ρ ρ0 : Ev} {x : V} {d : D} {i : Nat}
theorem SlotOk.mono {s : Option V} {c : DV} (m : Mv H O H' O') (h : SlotOk K H O s c) (own : ∀ a, s = some (.ref a) → O a → (∃ o, c = .own o ∨ c = .brw o) → O' a ∧ H' a = H a) : SlotOk K H' O' s c := by
  cases c with
  | un => exact True.intro
  | v d =>
    obtain ⟨y, e1, e2⟩ := h
    exact ⟨y, e1, Fz.mv m d y e2⟩
  | own o =>
    obtain ⟨a, e1, e2, e3⟩ := h
    obtain ⟨q1, q2⟩ := own a e1 e2 ⟨o, .inl rfl⟩
    exact ⟨a, e1, q1, e3.mv m q2⟩
  | brw o =>
    obtain ⟨a, e1, e2, e3⟩ := h
    obtain ⟨q1, q2⟩ := own a e1 e2 ⟨o, .inr rfl⟩
    exact ⟨a, e1, q1, e3.mv m q2⟩
  | ob C fs =>
    obtain ⟨y, e1, e2⟩ := h
    exact ⟨y, e1, e2.mv m⟩
theorem ow_set {c : DV} {j : Nat} (h : Ow (ρ.set i c) j) : (j = i ∧ ∃ o, c = .own o ∨ c = .brw o) ∨ (j ≠ i ∧ Ow ρ j) := by
  obtain ⟨o, h | h⟩ := h
  · rcases getElem?_set_of h with ⟨e, z⟩ | ⟨n, z⟩
    · exact .inl ⟨e, o, .inl z.symm⟩
    · exact .inr ⟨n, o, .inl z⟩
  · rcases getElem?_set_of h with ⟨e, z⟩ | ⟨n, z⟩
    · exact .inl ⟨e, o, .inr z.symm⟩
    · exact .inr ⟨n, o, .inr z⟩
theorem set_ne {α : Type} {l : List α} {i j : Nat} {x : α} (h : j ≠ i) : (l.set i x)[j]? = l[j]? := List.getElem?_set_ne (Ne.symm h)
/-- slot i is stored: an instance -/
theorem EnvOk.setob {C : Str} {fs : List (Str × D)} (E : EnvOk K H O σ ρ) (f : ObOk K H O x C fs) : EnvOk K H O (σ.set i (some x)) (ρ.set i (.ob C fs)) := by
  have key : ∀ j, Ow (ρ.set i (.ob C fs)) j → j ≠ i ∧ Ow ρ j := fun j h => by
    rcases ow_set h with ⟨_, o, z | z⟩ | z
    · cases z
    · cases z
    · exact z
  refine ⟨by rw [List.length_set, List.length_set]; exact E.len, fun j c hj => ?_, fun j k a h1 h2 e1 e2 => ?_, E.tr⟩
  · rcases getElem?_set_of hj with ⟨e, z⟩ | ⟨n, z⟩
    · subst e
      subst z
      have hl : j < σ.length := by
        have := (List.getElem?_eq_some_iff.mp hj).1
        rw [List.length_set] at this
        rw [E.len]
        exact this
      exact ⟨some x, List.getElem?_set_self hl, x, rfl, f⟩
    · rw [set_ne n]
      exact E.slot j c z
  · obtain ⟨n1, z1⟩ := key j h1
    obtain ⟨n2, z2⟩ := key k h2
    rw [set_ne n1] at e1
    rw [set_ne n2] at e2
    exact E.dis j k a z1 z2 e1 e2
/-- slot i is stored: data -/
theorem EnvOk.setv (E : EnvOk K H O σ ρ) (f : Fz K H O x d) : EnvOk K H O (σ.set i (some x)) (ρ.set i (.v d)) := by
  have key : ∀ j, Ow (ρ.set i (.v d)) j → j ≠ i ∧ Ow ρ j := fun j h => by
    rcases ow_set h with ⟨_, o, z | z⟩ | z
    · cases z
    · cases z
    · exact z
  refine ⟨by rw [List.length_set, List.length_set]; exact E.len, fun j c hj => ?_, fun j k a h1 h2 e1 e2 => ?_, E.tr⟩
  · rcases getElem?_set_of hj with ⟨e, z⟩ | ⟨n, z⟩
    · subst e
      subst z
      have hl : j < σ.length := by
        have := (List.getElem?_eq_some_iff.mp hj).1
        rw [List.length_set] at this
        rw [E.len]
        exact this
      exact ⟨some x, List.getElem?_set_self hl, x, rfl, f⟩
    · rw [set_ne n]
      exact E.slot j c z
  · obtain ⟨n1, z1⟩ := key j h1
    obtain ⟨n2, z2⟩ := key k h2
    rw [set_ne n1] at e1
    rw [set_ne n2] at e2
    exact E.dis j k a z1 z2 e1 e2
/-- .. a list that nobody else holds -/
theorem EnvOk.setown {a : Addr} {o : OC} (E : EnvOk K H O σ ρ) (oa : O a) (ne : ¬ Ed σ ρ a) (h : OcAt K H O a o) : EnvOk K H O (σ.set i (some (.ref a))) (ρ.set i (.own o)) := by
  refine ⟨by rw [List.length_set, List.length_set]; exact E.len, fun j c hj => ?_, fun j k b h1 h2 e1 e2 => ?_, E.tr⟩
  · rcases getElem?_set_of hj with ⟨e, z⟩ | ⟨n, z⟩
    · subst e
      subst z
      have hl : j < σ.length := by
        have := (List.getElem?_eq_some_iff.mp hj).1
        rw [List.length_set] at this
        rw [E.len]
        exact this
      exact ⟨_, List.getElem?_set_self hl, a, rfl, oa, h⟩
    · rw [set_ne n]
      exact E.slot j c z
  · have at_ : ∀ {j : Nat}, j = i → (σ.set i (some (V.ref a)))[j]? = some (some (.ref b)) → b = a := fun {j} e q => by
      rcases getElem?_set_of q with ⟨_, z⟩ | ⟨n, _⟩
      · cases z; rfl
      · exact absurd e n
    rcases ow_set h1 with ⟨j1, _⟩ | ⟨n1, z1⟩ <;> rcases ow_set h2 with ⟨j2, _⟩ | ⟨n2, z2⟩
    · rw [j1, j2]
    · have hb := at_ j1 e1
      rw [set_ne n2] at e2
      exact absurd ⟨k, z2, by rw [e2, hb]⟩ ne
    · have hb := at_ j2 e2
      rw [set_ne n1] at e1
      exact absurd ⟨j, z1, by rw [e1, hb]⟩ ne
    · rw [set_ne n1] at e1
      rw [set_ne n2] at e2
      exact E.dis j k b z1 z2 e1 e2
theorem Stp.set {c : DV} {s : Option V} (S : Stp σ0 ρ0 O0 H0 σ ρ O H) (nb : ∀ o, ρ[i]? ≠ some (DV.brw o)) (hn : ∀ o a, (c = .own o ∨ c = .brw o) → s = some (.ref a) → H0 a = none) : Stp σ0 ρ0 O0 H0 (σ.set i s) (ρ.set i c) O H := by
  refine ⟨S.keep, S.there, S.sub, S.stay, fun a ⟨j, h1, h2⟩ => ?_, fun j o hj => ?_⟩
  · rcases ow_set h1 with ⟨e, o, z⟩ | ⟨n, z⟩
    · subst e
      rcases getElem?_set_of h2 with ⟨_, w⟩ | ⟨n, _⟩
      · exact .inr (hn o a z w.symm)
      · exact absurd rfl n
    · rw [set_ne n] at h2
      exact S.env a ⟨j, z, h2⟩
  · obtain ⟨⟨o1, z1⟩, z2⟩ := S.bst j o hj
    have n : j ≠ i := by
      rintro rfl
      exact nb o1 z1
    rw [set_ne n, set_ne n]
    exact ⟨⟨o1, z1⟩, z2⟩
end

/-! ### statements -/
def noBrw : Option DV → Bool
  | some (.brw _) => false
  | some _ => true
  | none => false
theorem noBrw_ne {ρ : Ev} {i : Nat} (h : noBrw ρ[i]? = true) (o : OC) : ρ[i]? ≠ some (DV.brw o) := fun e => by
  rw [e] at h
  cases h
def mNx : MS := fun ρ => some (.nx, ρ)
def mSeq (a b : MS) : MS := fun ρ => (a ρ).bind fun p => match p.1 with
  | .nx => b p.2
  | o => some (o, p.2)
def mDrop (m : ME) : MS := fun ρ => (m ρ).map fun p => (.nx, p.2)
def mRet (m : ME) : MS := fun ρ => (m ρ).map fun p => (.rt p.1, p.2)
def mRetN : MS := fun ρ => some (.rt (.d .none), ρ)
def mIfS (c : MT) (a b : MS) : MS := fun ρ => (c ρ).bind fun p => if p.1 = true then a p.2 else b p.2
def mNever : MS := fun _ => none
/-- name = e -/
def mSet (i : Nat) (m : ME) : MS := fun ρ => (m ρ).bind fun p => match p.1 with
  | .nl o => if noBrw p.2[i]? = true then some (.nx, p.2.set i (.own o)) else none
  | .ob C fs => if noBrw p.2[i]? = true then some (.nx, p.2.set i (.ob C fs)) else none
  | r => (frz p.2 r).bind fun q => if noBrw q.2[i]? = true then some (.nx, q.2.set i (.v q.1)) else none
section
variable {X : Cx} {e c : Expr} {st : Stmt} {sts rest : List Stmt} {m : ME} {mt : MT} {ma mb : MS} {pos : Pos}
theorem s_nil : PSs X [] (tS X.K mNx) := PSs.of pss_nil fun σ H D ⟨ρ, O, o, ρ', E, e1, k⟩ => by
  cases e1
  exact k σ H O E .refl
theorem s_cons (h1 : PS X st (tS X.K ma)) (h2 : PSs X rest (tS X.K mb)) : PSs X (st :: rest) (tS X.K (mSeq ma mb)) := PSs.of (pss_cons h1 h2) fun σ H D ⟨ρ, O, o, ρ', E, e1, k⟩ => by
  obtain ⟨⟨o1, ρ1⟩, e2, e3⟩ := Option.bind_eq_some_iff.mp e1
  refine ⟨ρ, O, o1, ρ1, E, e2, fun σ1 H1 O1 E1 S1 => ?_⟩
  cases o1 with
  | nx =>
    refine ⟨ρ1, O1, o, ρ', E1, e3, fun σ2 H2 O2 E2 S2 => ?_⟩
    have q := k σ2 H2 O2 E2 (Stp.trans E.tr S1 S2)
    cases o with
    | nx => exact q
    | bk => exact q
    | ct => exact q
    | rt r => exact fun x R => q x (R.back S1.there)
  | bk => cases e3; exact k σ1 H1 O1 E1 S1
  | ct => cases e3; exact k σ1 H1 O1 E1 S1
  | rt r => cases e3; exact k σ1 H1 O1 E1 S1
theorem s_one (h1 : PS X st (tS X.K ma)) : PSs X [st] (tS X.K ma) := pss_one h1
def mBk : MS := fun ρ => some (.bk, ρ)
def mCt : MS := fun ρ => some (.ct, ρ)
theorem s_never : PS X st (tS X.K mNever) := PS.of ps_never fun σ H D ⟨ρ, O, o, ρ', E, e1, k⟩ => by cases e1
theorem s_expr (he : PE X e (tE X.K m)) (hs : swapsWith e none pos.line X.env = pure false := by rfl) : PS X (.Expr e pos) (tS X.K (mDrop m)) := PS.of (ps_expr he hs) fun σ H D ⟨ρ, O, o, ρ', E, e1, k⟩ => by
  obtain ⟨⟨r, ρ1⟩, e2, e3⟩ := Option.map_eq_some_iff.mp e1
  cases e3
  exact ⟨ρ, O, r, _, E, e2, fun x H1 O1 E1 S1 R1 => k σ H1 O1 E1 S1⟩
theorem s_ret (he : PE X e (tE X.K m)) : PS X (.Return (some e) pos) (tS X.K (mRet m)) := PS.of (ps_ret he) fun σ H D ⟨ρ, O, o, ρ', E, e1, k⟩ => by
  obtain ⟨⟨r, ρ1⟩, e2, e3⟩ := Option.map_eq_some_iff.mp e1
  cases e3
  exact ⟨ρ, O, r, _, E, e2, fun x H1 O1 E1 S1 R1 => k σ H1 O1 E1 S1 x R1⟩
theorem s_if (hc : PT X c (tT X.K mt)) (ha : PSs X sts (tS X.K ma)) (hb : PSs X rest (tS X.K mb)) : PS X (.If c sts rest pos) (tS X.K (mIfS mt ma mb)) := PS.of (ps_if hc ha hb) fun σ H D ⟨ρ, O, o, ρ', E, e1, k⟩ => by
  obtain ⟨⟨b1, ρ1⟩, e2, e3⟩ := Option.bind_eq_some_iff.mp e1
  refine ⟨ρ, O, b1, ρ1, E, e2, fun H1 O1 E1 S1 => ?_⟩
  have go : ∀ n : MS, n ρ1 = some (o, ρ') → tS X.K n D σ H1 := fun n hn => by
    refine ⟨ρ1, O1, o, ρ', E1, hn, fun σ2 H2 O2 E2 S2 => ?_⟩
    have q := k σ2 H2 O2 E2 (Stp.trans E.tr S1 S2)
    cases o with
    | nx => exact q
    | bk => exact q
    | ct => exact q
    | rt r => exact fun x R => q x (R.back S1.there)
  cases b1 with
  | true => exact iteT (go ma e3)
  | false => exact iteF (go mb e3)
theorem tSet_of {i : Nat} : ∀ σ H (D : Ends), tS X.K (mSet i m) D σ H → tAsg (tE X.K m) (gName i) D σ H := by
  intro σ H D ⟨ρ, O, o, ρ', E, e1, k⟩
  obtain ⟨⟨r, ρ1⟩, e2, e3⟩ := Option.bind_eq_some_iff.mp e1
  refine ⟨ρ, O, r, ρ1, E, e2, fun x H1 O1 E1 S1 R1 => ?_⟩
  show D.nx (σ.set i (some x)) H1
  have gen : ∀ r', RvOk X.K H H1 O1 σ ρ1 x r' → ((frz ρ1 r').bind fun q => if noBrw q.2[i]? = true then some (Out.nx, q.2.set i (.v q.1)) else none) = some (o, ρ') → D.nx (σ.set i (some x)) H1 := fun r' R' z => by
    obtain ⟨⟨d, ρ2⟩, f1, f2⟩ := Option.bind_eq_some_iff.mp z
    obtain ⟨O2, E2, S2, F2⟩ := frz_ok E.tr E1 S1 R' f1
    dsimp only at f2
    split at f2
    · rename_i hb
      cases f2
      exact k _ H1 O2 (E2.setv F2) (S2.set (noBrw_ne hb) fun o a z _ => by rcases z with z | z <;> cases z)
    · cases f2
  cases r with
  | d y => exact gen _ R1 e3
  | al j => exact gen _ R1 e3
  | nl oc =>
    have e3 : (if noBrw ρ1[i]? = true then some (Out.nx, ρ1.set i (.own oc)) else none) = some (o, ρ') := e3
    split at e3
    · rename_i hb
      cases e3
      obtain ⟨a, rfl, h1, h2, h3, h4⟩ := R1
      exact k _ H1 O1 (E1.setown h1 h2 h4) (S1.set (noBrw_ne hb) fun o b _ z => by cases z; exact h3)
    · cases e3
  | ob C fs =>
    have e3 : (if noBrw ρ1[i]? = true then some (Out.nx, ρ1.set i (.ob C fs)) else none) = some (o, ρ') := e3
    split at e3
    · rename_i hb
      cases e3
      exact k _ H1 O1 (E1.setob R1) (S1.set (noBrw_ne hb) fun o b z _ => by rcases z with z | z <;> cases z)
    · cases e3
theorem s_set {i : Nat} {x : Str} {pos' : Pos} (hN : X.N.Nodup) (he : PE X e (tE X.K m)) (hi : X.N[i]? = some x := by rfl) (hx : Loc X.env.scope x := by first | exact .inl rfl | exact .inr rfl) (hs : swapsWith e (some (.Name x pos')) pos.line X.env = pure false := by rfl)
    (hf : X.fn x = true ∨ X.env.scope.names.lookup x = some .local := by first | exact .inl rfl | exact .inr rfl) : PS X (.Assign [.Name x pos'] e pos) (tS X.K (mSet i m)) := PS.of (ps_set hN hi hx he hs hf) tSet_of

/-! ### targets -/
def gN (i : Nat) : MG := fun d ρ => if noBrw ρ[i]? = true then some (ρ.set i (.v d)) else none
theorem g_name {i : Nat} {vs : List Nat} {x : Str} (hN : X.N.Nodup) (hi : X.N[i]? = some x := by rfl) (hx : Loc X.env.scope x := by first | exact .inl rfl | exact .inr rfl) (hf : X.fn x = true ∨ X.env.scope.names.lookup x = some .local := by first | exact .inl rfl | exact .inr rfl) (hv : i ∈ vs := by decide) : PG X (.Name x pos) (tG X.K vs (gN i)) :=
  PG.of (pg_name hN hi hx hf) fun v σ H Q ⟨ρ, O, d, ρ', E, F, e1, k⟩ => by
    unfold gN at e1
    split at e1
    · rename_i hb
      cases e1
      exact k _ H O (E.setv F) (Stp.refl.set (noBrw_ne hb) fun o a z _ => by rcases z with z | z <;> cases z) ⟨List.length_set, fun j hj => set_ne fun e => hj (e ▸ hv)⟩
    · cases e1
abbrev MGs := List D → Ev → Option Ev
def tGs (K : PySem.W.Frag) (vs : List Nat) (g : MGs) : TGs := fun xs σ H Q => ∃ ρ O ds ρ', EnvOk K H O σ ρ ∧ FzAll K H O xs ds ∧ g ds ρ = some ρ' ∧ ∀ σ' H' O', EnvOk K H' O' σ' ρ' → Stp σ ρ O H σ' ρ' O' H' → (σ'.length = σ.length ∧ ∀ j : Nat, j ∉ vs → σ'[j]? = σ[j]?) → Q σ' H'
theorem PGs.of {es : List Expr} {t t' : TGs} (h : PGs X es t) (i : ∀ v σ H Q, t' v σ H Q → t v σ H Q) : PGs X es t' := ⟨fun pins s σ H v u Q I r q => h.run pins s σ H v u Q I r (i v σ H Q q)⟩
def gNil' : MGs := fun ds ρ => match ds with
  | [] => some ρ
  | _ => none
def gCons' (g : MG) (gs : MGs) : MGs := fun ds ρ => match ds with
  | [] => none
  | d :: r => (g d ρ).bind fun ρ1 => gs r ρ1
theorem gs_nil {vs : List Nat} : PGs X [] (tGs X.K vs gNil') := PGs.of pgs_nil fun v σ H Q ⟨ρ, O, ds, ρ', E, F, e1, k⟩ => by
  cases ds with
  | nil =>
    cases e1
    cases F
    exact ⟨rfl, k σ H O E .refl ⟨rfl, fun _ _ => rfl⟩⟩
  | cons d r => cases e1
theorem gs_cons {es : List Expr} {vs : List Nat} {g : MG} {gs : MGs} (h1 : PG X e (tG X.K vs g)) (h2 : PGs X es (tGs X.K vs gs)) (hs : (assignEach (e :: es) X.env).map (·.2) = assign e X.env :: (assignEach es X.env).map (·.2) := by rfl) : PGs X (e :: es) (tGs X.K vs (gCons' g gs)) :=
  PGs.of (pgs_cons h1 h2 hs) fun v σ H Q ⟨ρ, O, ds, ρ', E, F, e1, k⟩ => by
    cases ds with
    | nil => cases e1
    | cons d r =>
      obtain ⟨ρ1, e2, e3⟩ := Option.bind_eq_some_iff.mp (show (g d ρ).bind (fun ρ1 => gs r ρ1) = some ρ' from e1)
      cases F with
      | cons F1 F2 =>
        exact ⟨_, _, rfl, ρ, O, d, ρ1, E, F1, e2, fun σ1 H1 O1 E1 S1 W1 => ⟨ρ1, O1, r, ρ', E1, FzAll.mv (S1.mv E) r _ F2, e3, fun σ2 H2 O2 E2 S2 W2 => k σ2 H2 O2 E2 (Stp.trans E.tr S1 S2) ⟨W2.1.trans W1.1, fun j hj => (W2.2 j hj).trans (W1.2 j hj)⟩⟩⟩
def gTup' (n : Nat) (gs : MGs) : MG := fun d ρ => match d with
  | .tuple ds => if ds.length = n then gs ds ρ else none
  | _ => none
theorem g_tup {es : List Expr} {vs : List Nat} {k : Nat} {gs : MGs} {n : Nat} (h : PGs X es (tGs X.K vs gs)) (hc : X.calm = true := by rfl) (hn : (assignEach es X.env).length = n := by rfl) (hst : (assignEach es X.env).findIdx? (·.1) = none := by rfl) : PG X (.Tuple es k pos) (tG X.K vs (gTup' n gs)) :=
  PG.of (pg_tup hc h hn hst) fun v σ H Q ⟨ρ, O, d, ρ', E, F, e1, k⟩ => by
    cases d with
    | tuple ds =>
      have e1 : (if ds.length = n then gs ds ρ else none) = some ρ' := e1
      split at e1
      · rename_i hl
        cases F with
        | tup h1 h2 => exact ⟨_, _, rfl, h1.sq, by rw [h2.length]; exact hl, ρ, O, ds, ρ', E, h2, e1, k⟩
      · cases e1
    | _ => cases e1
/-- target = e, e given away -/
def mAsg (g : MG) (m : ME) : MS := fun ρ => (mF m ρ).bind fun p => (g p.1 p.2).map fun ρ' => (.nx, ρ')
theorem s_asg {tg : Expr} {vs : List Nat} {g : MG} (he : PE X e (tE X.K m)) (hg : PG X tg (tG X.K vs g)) (hs : swapsWithSole [tg] e pos.line X.env = pure false := by rfl) (hw : swappedStores [tg] e X.env = pure none := by rfl)
    (h1 : (assignEach [tg] X.env).map (·.2) = [assign tg X.env] := by rfl) : PS X (.Assign [tg] e pos) (tS X.K (mAsg g m)) := PS.of (ps_asg (pd_of he) hg hs hw h1) fun σ H D ⟨ρ, O, o, ρ', E, e1, k⟩ => by
  obtain ⟨⟨d, ρ1⟩, e2, e3⟩ := Option.bind_eq_some_iff.mp e1
  obtain ⟨ρ2, e4, e5⟩ := Option.map_eq_some_iff.mp e3
  cases e5
  exact ⟨ρ, O, d, ρ1, E, e2, fun x H1 O1 E1 S1 F1 => ⟨ρ1, O1, d, _, E1, F1, e4, fun σ2 H2 O2 E2 S2 _ => k σ2 H2 O2 E2 (Stp.trans E.tr S1 S2)⟩⟩
end
end PL

/-! PL5: defs and their calls. -/
namespace PL
open PySem PySem.Spec PyProof.Rows L2
variable [TheW]

/-! ### a def by its function over the parameters' slots; nothing else shows itself ahead (guards = some []) -/
structure FnG (P : Program) (w : World) (K : PySem.W.Frag) (mg : Str → Option Value) (base : Heap) (k : Nat) (f : Addr) (fd : FuncData) (ps : List Str) (fm : ME) : Prop where
  len : ∀ dvs r, fm dvs = some r → dvs.length = ps.length
  run : ∀ (A : Around) (outer : List Env) (s : Shared) (H : Hp) (args : Args) (us : List Value) (vs : List V) (Q : VK), Room k A → A.guards = some [] → Env0 P w K mg base A outer s H →
    BindsTo s fd args (ps.zip us) → Vals vs us → tE K fm (vs.map some) H Q → codeAny (model P w) A (.call (.ref f) args) (CR CX0 outer P w H s Q E0) s
theorem FnG.mono {P : Program} {w : World} {K : PySem.W.Frag} {mg : Str → Option Value} {base : Heap} {j k : Nat} {f : Addr} {fd : FuncData} {ps : List Str} {fm : ME} (F : FnG P w K mg base j f fd ps fm) (h : j ≤ k) : FnG P w K mg base k f fd ps fm :=
  ⟨F.len, fun A outer s H args us vs Q hr => F.run A outer s H args us vs Q (hr.mono h)⟩
theorem FnG.argc {P : Program} {w : World} {K : PySem.W.Frag} {mg : Str → Option Value} {base : Heap} {k : Nat} {f : Addr} {fd : FuncData} {ps : List Str} {fm : ME} (F : FnG P w K mg base k f fd ps fm) {vs : List V} {H : Hp} {Q : VK} (h : tE K fm (vs.map some) H Q) : vs.length = ps.length := by
  obtain ⟨dvs, O, r, ρ', E, e, _⟩ := h
  rw [← F.len dvs _ e, ← E.len, List.length_map]

/-- what a call leaves of the parameters: data, and the callers' lists -/
def outDV (ρ : Ev) (i : Nat) : DV → DV
  | .v d => .v d
  | .brw o => (ρ[i]?).getD (.brw o)
  | .own _ => .un
  | .un => .un
  | .ob C fs => .ob C fs
def outsOf (dvs ρ : Ev) : Ev := dvs.mapIdx fun i c => outDV ρ i c
/-- no own list among the parameters -/
def plainArgs (dvs : Ev) : Bool := dvs.all fun c => match c with
  | .own _ => false
  | _ => true
/-- a def: np parameters, n names -/
def mFn (np n : Nat) (ms : MS) : ME := fun dvs => if dvs.length = np ∧ plainArgs dvs = true then (ms (dvs ++ List.replicate (n - np) .un)).bind fun p => match p.1 with
  | .nx => some (.d .none, outsOf dvs p.2)
  | .rt (.d d) => some (.d d, outsOf dvs p.2)
  | .rt (.nl o) => some (.nl o, outsOf dvs p.2)
  | .rt (.ob C fs) => some (.ob C fs, outsOf dvs p.2)
  | .rt (.al i) => match p.2[i]? with
    | some (.own o) => some (.nl o, outsOf dvs p.2)
    | some (.v d) => some (.d d, outsOf dvs p.2)
    | _ => none
  | _ => none
  else none

theorem mFn_len {np n : Nat} {ms : MS} : ∀ dvs r, mFn np n ms dvs = some r → dvs.length = np := fun dvs r h => by
  unfold mFn at h
  split at h
  · rename_i hc
    exact hc.1
  · cases h
section
variable {K : PySem.W.Frag} {H H' H0 : Hp} {O O' O0 : Addr → Prop} {σ σ' : L2.St} {ρ ρ' dvs : Ev} {x : V} {d : D} {i : Nat}
theorem getElem?_pad {α : Type} {l : List α} {n : Nat} {y z : α} {i : Nat} (h : (l ++ List.replicate n y)[i]? = some z) : (i < l.length ∧ l[i]? = some z) ∨ (l.length ≤ i ∧ z = y) := by
  by_cases hi : i < l.length
  · rw [List.getElem?_append_left hi] at h
    exact .inl ⟨hi, h⟩
  · rw [List.getElem?_append_right (Nat.le_of_not_lt hi), List.getElem?_replicate] at h
    split at h
    · exact .inr ⟨Nat.le_of_not_lt hi, (Option.some.inj h).symm⟩
    · cases h
theorem ow_pad {n : Nat} {j : Nat} (h : Ow (ρ ++ List.replicate n .un) j) : j < ρ.length ∧ Ow ρ j := by
  obtain ⟨o, h | h⟩ := h
  · rcases getElem?_pad h with ⟨a, b⟩ | ⟨_, b⟩
    · exact ⟨a, o, .inl b⟩
    · cases b
  · rcases getElem?_pad h with ⟨a, b⟩ | ⟨_, b⟩
    · exact ⟨a, o, .inr b⟩
    · cases b
theorem EnvOk.pad (E : EnvOk K H O σ ρ) (n : Nat) : EnvOk K H O (σ ++ List.replicate n none) (ρ ++ List.replicate n .un) := by
  have el := E.len
  have at_ : ∀ {j : Nat} {b : Addr}, j < ρ.length → (σ ++ List.replicate n none)[j]? = some (some (.ref b)) → σ[j]? = some (some (.ref b)) := fun {j b} hj e => by
    rw [List.getElem?_append_left (by omega)] at e
    exact e
  refine ⟨by rw [List.length_append, List.length_append, List.length_replicate, List.length_replicate, el], fun j c hj => ?_, fun j k a h1 h2 e1 e2 => ?_, E.tr⟩
  · rcases getElem?_pad hj with ⟨hl, z⟩ | ⟨hl, z⟩
    · obtain ⟨s, e, q⟩ := E.slot j c z
      exact ⟨s, by rw [List.getElem?_append_left (by omega)]; exact e, q⟩
    · subst z
      have hj2 : j < ρ.length + n := by
        have := (List.getElem?_eq_some_iff.mp hj).1
        rw [List.length_append, List.length_replicate] at this
        exact this
      exact ⟨none, by rw [List.getElem?_append_right (by omega), List.getElem?_replicate, if_pos (by omega)], True.intro⟩
  · obtain ⟨l1, z1⟩ := ow_pad h1
    obtain ⟨l2, z2⟩ := ow_pad h2
    exact E.dis j k a z1 z2 (at_ l1 e1) (at_ l2 e2)
theorem Ed.pad {n : Nat} {a : Addr} (el : σ.length = ρ.length) (h : Ed (σ ++ List.replicate n none) (ρ ++ List.replicate n .un) a) : Ed σ ρ a := by
  obtain ⟨i, h1, h2⟩ := h
  obtain ⟨l, z⟩ := ow_pad h1
  rw [List.getElem?_append_left (by omega)] at h2
  exact ⟨i, z, h2⟩
theorem outs_get {j : Nat} {c : DV} (h : (outsOf dvs ρ)[j]? = some c) : ∃ c0, dvs[j]? = some c0 ∧ c = outDV ρ j c0 := by
  unfold outsOf at h
  rw [List.getElem?_mapIdx] at h
  obtain ⟨c0, e1, e2⟩ := Option.map_eq_some_iff.mp h
  exact ⟨c0, e1, e2.symm⟩
theorem plain_no (h : plainArgs dvs = true) {j : Nat} {o : OC} (e : dvs[j]? = some (.own o)) : False := by
  have := List.all_eq_true.mp h _ (List.mem_of_getElem? e)
  cases this
/-- behind a body: the parameters' slots again -/
theorem fn_back {σa : L2.St} {n : Nat} {σe : L2.St} {ρe : Ev} (pl : plainArgs dvs = true) (E0 : EnvOk K H0 O0 σa dvs) (E : EnvOk K H O σe ρe) (S : Stp (σa ++ List.replicate n none) (dvs ++ List.replicate n .un) O0 H0 σe ρe O H) :
    EnvOk K H O σa (outsOf dvs ρe) ∧ Stp σa dvs O0 H0 σa (outsOf dvs ρe) O H ∧ (∀ a, Ed σa (outsOf dvs ρe) a → ∃ (j : Nat) (o : OC), dvs[j]? = some (DV.brw o) ∧ σe[j]? = some (some (V.ref a)) ∧ ∃ o', ρe[j]? = some (DV.brw o')) ∧
      ∀ (i : Nat) (o : OC) (a : Addr), ρe[i]? = some (DV.own o) → σe[i]? = some (some (V.ref a)) → H0 a = none := by
  have mv : Mv H0 O0 H O := S.mv (E0.pad n)
  have brw : ∀ (j : Nat) (o : OC), dvs[j]? = some (DV.brw o) → (∃ o', ρe[j]? = some (DV.brw o')) ∧ σe[j]? = σa[j]? := fun j o hj => by
    have hl : j < dvs.length := (List.getElem?_eq_some_iff.mp hj).1
    obtain ⟨z1, z2⟩ := S.bst j o (by rw [List.getElem?_append_left hl]; exact hj)
    refine ⟨z1, ?_⟩
    rw [z2, List.getElem?_append_left (by have := E0.len; omega)]
  have ow : ∀ (j : Nat), Ow (outsOf dvs ρe) j → ∃ o, dvs[j]? = some (DV.brw o) ∧ ∃ o', ρe[j]? = some (DV.brw o') := fun j ⟨o, h⟩ => by
    have key : ∀ c, (outsOf dvs ρe)[j]? = some c → (c = .own o ∨ c = .brw o) → ∃ o, dvs[j]? = some (DV.brw o) ∧ ∃ o', ρe[j]? = some (DV.brw o') := fun c hc hh => by
      obtain ⟨c0, e1, e2⟩ := outs_get hc
      cases c0 with
      | un => subst e2; rcases hh with z | z <;> cases z
      | v d => subst e2; rcases hh with z | z <;> cases z
      | own o1 => exact (plain_no pl e1).elim
      | brw o1 => exact ⟨o1, e1, (brw j o1 e1).1⟩
      | ob C fs => subst e2; rcases hh with z | z <;> cases z
    rcases h with h | h
    · exact key _ h (.inl rfl)
    · exact key _ h (.inr rfl)
  have edd : ∀ a, Ed σa (outsOf dvs ρe) a → Ed σa dvs a := fun a ⟨j, h1, h2⟩ => by
    obtain ⟨o, z, _⟩ := ow j h1
    exact ⟨j, ⟨o, .inr z⟩, h2⟩
  refine ⟨⟨?_, fun j c hj => ?_, fun j k a h1 h2 e1 e2 => ?_, E.tr⟩, ⟨fun a o h ne => S.keep a o h fun z => ne (z.pad E0.len), S.there, S.sub, fun a h ne => S.stay a h fun z => ne (z.pad E0.len), fun a h => .inl (edd a h), fun j o hj => ?_⟩, fun a ⟨j, h1, h2⟩ => ?_, fun i o a hi hs => ?_⟩
  · unfold outsOf
    rw [List.length_mapIdx]
    exact E0.len
  · obtain ⟨c0, e1, e2⟩ := outs_get hj
    obtain ⟨s, es, q⟩ := E0.slot j c0 e1
    refine ⟨s, es, ?_⟩
    cases c0 with
    | un => subst e2; exact True.intro
    | own o1 => exact (plain_no pl e1).elim
    | v d =>
      subst e2
      obtain ⟨y, z1, z2⟩ := q
      exact ⟨y, z1, Fz.mv mv d y z2⟩
    | brw o1 =>
      obtain ⟨⟨o', z1⟩, z2⟩ := brw j o1 e1
      have ec : c = .brw o' := by
        rw [e2]
        show (ρe[j]?).getD (.brw o1) = _
        rw [z1]
        rfl
      subst ec
      obtain ⟨s', es', q'⟩ := E.slot j _ z1
      rw [z2, es] at es'
      cases es'
      exact q'
    | ob C fs =>
      subst e2
      obtain ⟨y, z1, z2⟩ := q
      exact ⟨y, z1, z2.mv mv⟩
  · obtain ⟨o1, z1, _⟩ := ow j h1
    obtain ⟨o2, z2, _⟩ := ow k h2
    exact E0.dis j k a ⟨o1, .inr z1⟩ ⟨o2, .inr z2⟩ e1 e2
  · obtain ⟨⟨o', z1⟩, _⟩ := brw j o hj
    refine ⟨⟨o', ?_⟩, rfl⟩
    unfold outsOf
    rw [List.getElem?_mapIdx, hj]
    show some ((ρe[j]?).getD (.brw o)) = _
    rw [z1]
    rfl
  · obtain ⟨o, z, w⟩ := ow j h1
    exact ⟨j, o, z, by rw [(brw j o z).2]; exact h2, w⟩
  · rcases S.env a ⟨i, ⟨o, .inl hi⟩, hs⟩ with z | z
    · obtain ⟨j, ⟨oj, hj⟩, hsj⟩ := z.pad E0.len
      rcases hj with hj | hj
      · exact (plain_no pl hj).elim
      · obtain ⟨⟨o', z1⟩, z2⟩ := brw j oj hj
        have := E.dis i j a ⟨o, .inl hi⟩ ⟨o', .inr z1⟩ hs (by rw [z2]; exact hsj)
        subst this
        rw [hi] at z1
        cases z1
    · exact z
/-- a body's run is the def's -/
theorem fn_run {np n : Nat} {ms : MS} {vs : List V} {Q : VK} (hl : vs.length = np) (h : tE K (mFn np n ms) (vs.map some) H Q) : tS K ms { nx := fun _ H' => Q .non H', rt := Q } (vs.map some ++ List.replicate (n - vs.length) none) H := by
  obtain ⟨dvs, O, r, outs, E, e1, k⟩ := h
  unfold mFn at e1
  split at e1
  · rename_i hc
    obtain ⟨⟨o, ρe⟩, e2, e3⟩ := Option.bind_eq_some_iff.mp e1
    refine ⟨dvs ++ List.replicate (n - np) .un, O, o, ρe, by rw [hl]; exact E.pad (n - np), e2, fun σe H' O' E' S' => ?_⟩
    rw [hl] at S'
    obtain ⟨E2, S2, B, N⟩ := fn_back hc.2 E E' S'
    have ned : ∀ (i : Nat) (oc : OC) (a : Addr), ρe[i]? = some (.own oc) → σe[i]? = some (some (.ref a)) → ¬ Ed (vs.map some) (outsOf dvs ρe) a := fun i oc a hi hs hz => by
      obtain ⟨j, o1, z1, z2, o2, z3⟩ := B a hz
      have := E'.dis i j a ⟨oc, .inl hi⟩ ⟨o2, .inr z3⟩ hs z2
      subst this
      rw [hi] at z3
      cases z3
    cases o with
    | nx => cases e3; exact k .non H' O' E2 S2 .non
    | bk => cases e3
    | ct => cases e3
    | rt r' =>
      intro x R
      cases r' with
      | d d => cases e3; exact k x H' O' E2 S2 R
      | nl oc =>
        cases e3
        obtain ⟨a, rfl, h1, h2, h3, h4⟩ := R
        refine k _ H' O' E2 S2 ⟨a, rfl, h1, fun z => ?_, h3, h4⟩
        obtain ⟨j, o1, z1, z2, o2, z3⟩ := B a z
        exact h2 ⟨j, ⟨o2, .inr z3⟩, z2⟩
      | ob C fs => cases e3; exact k x H' O' E2 S2 R
      | al i =>
        have R : σe[i]? = some (some x) := R
        dsimp only at e3
        split at e3
        · rename_i oc hi
          cases e3
          obtain ⟨s, es, a, ea, oa, ha⟩ := E'.slot i _ hi
          rw [R] at es
          cases es
          cases ea
          exact k _ H' O' E2 S2 ⟨a, rfl, oa, ned i oc a hi R, N i oc a hi R, ha⟩
        · rename_i d hi
          cases e3
          obtain ⟨s, es, y, ey, hy⟩ := E'.slot i _ hi
          rw [R] at es
          cases es
          cases ey
          exact k _ H' O' E2 S2 hy
        · cases e3
  · cases e1
end
end PL

/-! PL6: a def's body keeps the promise; calls of defs. -/
namespace PL
open PySem PySem.Spec PyProof.Rows L2
variable [TheW]

/-- the context of a def's body -/
abbrev bodyX (P : Program) (w : World) (K : PySem.W.Frag) (mg : Str → Option Value) (base : Heap) (N : List Str) (qual : Str) (st : Stmt) (f : Addr) (cdv : Value) (A : Around) (outer : List Env) (s : Shared) (H : Hp) : Cx :=
  (cxOf CX0 P w K mg base N qual (defScope st) f cdv A outer s H E0).nox
section
variable {P : Program} {w : World} {K : PySem.W.Frag} {mg : Str → Option Value} {base : Heap}
theorem fn_g {x qual : Str} {st : Stmt} {f : Addr} {fd : FuncData} {N ps : List Str} {k : Nat} {ms : MS} (F : Fun K x qual st f fd) (S : FnScope N ps (defScope st))
    (hb : ∀ (cdv : Value) (A : Around) (outer : List Env) (s : Shared) (H : Hp), Room k (bodyX P w K mg base N qual st f cdv A outer s H).A → (bodyX P w K mg base N qual st f cdv A outer s H).A.guards = some [] →
      PSs (bodyX P w K mg base N qual st f cdv A outer s H) (defBody st) (tS K ms)) : FnG P w K mg base (k + 1) f fd ps (mFn ps.length N.length ms) := by
  obtain ⟨oc, od, kV, doc, pm, an, cdv, ct, osl, rfl, lk, hcd⟩ := F.ex
  refine ⟨mFn_len, ?_⟩
  intro A outer s H args us vs Q hr hg e0 hbind rv hf
  have hl : vs.length = ps.length := by
    obtain ⟨dvs, O, r, ρ', E, e, _⟩ := hf
    rw [← mFn_len dvs _ e, ← E.len, List.length_map]
  have keepB : ∀ b o, base.get? b = some o → s.heap.get? b = some o := fun b o e => (e0.bs b o e).1
  have inK := e0.mod.kin.keeps keepB
  have kinds : ∀ y ∈ ps.zip us, (defScope st).names.lookup y.1 = some .local ∨ ((defScope st).names.lookup y.1 = some .cell ∧ ((cellsFrom (s.heap.objs.size + 1) (defScope st).names []).lookup y.1).isSome = true) := by
    intro y hy
    cases S.par y.1 (List.of_mem_zip hy).1 with
    | inl q => exact .inl q
    | inr q => exact .inr ⟨q, PySem.W.cellsFrom_some _ _ _ (.inl q)⟩
  refine codeAny_call_function hr.depth (inK _ _ lk) rfl S.co S.gen rfl (PySem.W.codeRec_of inK hcd) (hbind _ _ _ _ (wpAny_newFunctionEnv_cells S.kind kinds fun env henv s1 x => ?_))
  subst henv
  refine ⟨(e0.mod.nolimit.keeps keepB).keeps x.toInCall.keep, codeAny_func ?_⟩
  have I := inv_start (CX := CX0) (E := E0) S hr.hd e0 hl rv x
  have body := (hb cdv A outer s H (hr.deeper _) hg).nox.run [] s1 (start N vs) H _ I (fn_run hl hf)
  refine wpAny_mono body (fun fl s' hs => ?_) fun e s' hs => hs
  cases fl with
  | next =>
    obtain ⟨σ', H', J, q⟩ := hs
    exact ⟨V.non, H', J.os, J.bare, J.base, J.hok, rfl, q⟩
  | ret u =>
    obtain ⟨v, σ', H', J, rv', q⟩ := hs
    exact ⟨v, H', J.os, J.bare, J.base, J.hok, rv', q⟩
  | brk =>
    obtain ⟨_, _, _, q⟩ := hs
    exact q.elim
  | cont =>
    obtain ⟨_, _, _, q⟩ := hs
    exact q.elim
end

/-! ### arguments -/
structure RvsOk (K : PySem.W.Frag) (H0 H : Hp) (O : Addr → Prop) (σ : L2.St) (ρ : Ev) (xs : List V) (rs : List RV) : Prop where
  all : Paired (fun x r => RvOk K H0 H O σ ρ x r) xs rs
  dis : ∀ (i j : Nat) (a : Addr) (o o' : OC), rs[i]? = some (RV.nl o) → rs[j]? = some (RV.nl o') → xs[i]? = some (V.ref a) → xs[j]? = some (V.ref a) → i = j
def tA (K : PySem.W.Frag) (m : MA) : TA := fun σ H Q => ∃ ρ O rs ρ', EnvOk K H O σ ρ ∧ m ρ = some (rs, ρ') ∧
  ∀ xs H' O', EnvOk K H' O' σ ρ' → Stp σ ρ O H σ ρ' O' H' → RvsOk K H H' O' σ ρ' xs rs → Q xs H'
def mANil : MA := fun ρ => some ([], ρ)
def mACons (m : ME) (ms : MA) : MA := fun ρ => (m ρ).bind fun p => (ms p.2).bind fun q => some (p.1 :: q.1, q.2)
section
variable {K : PySem.W.Frag} {H H0 : Hp} {O : Addr → Prop} {σ : L2.St} {ρ : Ev} {xs : List V} {rs : List RV}
theorem rvs_get (R : Paired (fun x r => RvOk K H0 H O σ ρ x r) xs rs) : ∀ (i : Nat) (r : RV), rs[i]? = some r → ∃ x, xs[i]? = some x ∧ RvOk K H0 H O σ ρ x r := by
  induction R with
  | nil => intro i r h; simp at h
  | cons h t ih =>
    intro i r hr
    cases i with
    | zero =>
      simp only [List.getElem?_cons_zero, Option.some.injEq] at hr
      subst hr
      exact ⟨_, rfl, h⟩
    | succ i =>
      obtain ⟨x, g1, g2⟩ := ih i r (by simpa using hr)
      exact ⟨x, by simpa using g1, g2⟩
end
section
variable {X : Cx} {e : Expr} {es : List Expr} {m : ME} {ms : MA} {pos : Pos}
theorem a_nil : PA X [] (tA X.K mANil) := PA.of pa_nil fun σ H Q ⟨ρ, O, rs, ρ', E, e1, k⟩ => by
  cases e1
  exact k [] H O E .refl ⟨.nil, fun i j a o o' h => by simp at h⟩
theorem a_cons (ha : PE X e (tE X.K m)) (hr : PA X es (tA X.K ms)) (hs : starEach (e :: es) X.env = (false, eval e X.env) :: starEach es X.env := by rfl) : PA X (e :: es) (tA X.K (mACons m ms)) :=
  PA.of (pa_cons ha hr hs) fun σ H Q ⟨ρ, O, rs, ρ', E, e1, k⟩ => by
    obtain ⟨⟨r, ρ1⟩, e2, e3⟩ := Option.bind_eq_some_iff.mp e1
    obtain ⟨⟨rs1, ρ2⟩, e4, e5⟩ := Option.bind_eq_some_iff.mp e3
    cases e5
    refine ⟨ρ, O, r, ρ1, E, e2, fun x H1 O1 E1 S1 R1 => ⟨ρ1, O1, rs1, _, E1, e4, fun xs H2 O2 E2 S2 R2 => ?_⟩⟩
    have nlNew : ∀ (j : Nat) (a : Addr) (o : OC), rs1[j]? = some (RV.nl o) → xs[j]? = some (V.ref a) → H1 a = none := fun j a o hj hx => by
      obtain ⟨x, g1, b, eb, _, _, g2, _⟩ := rvs_get R2.all j _ hj
      rw [hx] at g1
      cases g1
      cases eb
      exact g2
    refine k (x :: xs) H2 O2 E2 (Stp.trans E.tr S1 S2) ⟨.cons (R1.stp E1 S2) (Paired.mapP R2.all fun y q h => h.back S1.there), fun i j a o o' h1 h2 h3 h4 => ?_⟩
    have first : ∀ {o : OC}, r = RV.nl o → x = V.ref a → H1 a ≠ none := fun {o} h5 h6 => by
      subst h5
      obtain ⟨b, eb, _, _, _, h7⟩ := R1
      rw [h6] at eb
      cases eb
      exact h7.there
    cases i with
    | zero =>
      cases j with
      | zero => rfl
      | succ j =>
        exact absurd (nlNew j a o' (by simpa using h2) (by simpa using h4)) (first (by simpa using h1) (by simpa using h3))
    | succ i =>
      cases j with
      | zero => exact absurd (nlNew i a o (by simpa using h1) (by simpa using h3)) (first (by simpa using h2) (by simpa using h4))
      | succ j => rw [R2.dis i j a o o' (by simpa using h1) (by simpa using h2) (by simpa using h3) (by simpa using h4)]
end

/-- a parameter's slot at the entry -/
def argDV (ρ : Ev) : RV → Option DV
  | .d d => some (.v d)
  | .nl o => some (.brw o)
  | .al i => match ρ[i]? with
    | some (.v d) => some (.v d)
    | some (.own o) => some (.brw o)
    | some (.brw o) => some (.brw o)
    | _ => none
  | .ob C fs => some (.ob C fs)
def argDVs (ρ : Ev) : List RV → Option Ev
  | [] => some []
  | r :: rs => (argDV ρ r).bind fun c => (argDVs ρ rs).map (c :: ·)
/-- the slots whose lists are handed in -/
def alsOf : List RV → List Nat
  | [] => []
  | .al i :: rs => i :: alsOf rs
  | _ :: rs => alsOf rs
def isAl (j : Nat) : RV → Bool
  | .al i => i == j
  | _ => false
/-- the callers' slots behind a call -/
def backAt (rs : List RV) (outs : Ev) (j : Nat) : DV → DV
  | .own o => match rs.findIdx? (isAl j) with
    | some p => match outs[p]? with
      | some (.brw o') => .own o'
      | _ => .own o
    | none => .own o
  | .brw o => match rs.findIdx? (isAl j) with
    | some p => match outs[p]? with
      | some (.brw o') => .brw o'
      | _ => .brw o
    | none => .brw o
  | c => c
def putBack (ρ : Ev) (rs : List RV) (outs : Ev) : Ev := ρ.mapIdx fun j c => backAt rs outs j c
/-- a call of the def fm -/
def mCall (fm : ME) (ms : MA) : ME := fun ρ => (ms ρ).bind fun p => if (alsOf p.1).Nodup then (argDVs p.2 p.1).bind fun dvs => (fm dvs).bind fun q => match q.1 with
  | .d d => some (.d d, putBack p.2 p.1 q.2)
  | .nl o => some (.nl o, putBack p.2 p.1 q.2)
  | .ob C fs => some (.ob C fs, putBack p.2 p.1 q.2)
  | .al _ => none
  else none
section
variable {K : PySem.W.Frag} {H H' H0 : Hp} {O O' : Addr → Prop} {σ : L2.St} {ρ : Ev} {xs : List V} {rs : List RV} {dvs outs : Ev}
theorem argDVs_get : ∀ {rs : List RV} {dvs : Ev}, argDVs ρ rs = some dvs → dvs.length = rs.length ∧ ∀ (i : Nat) (c : DV), dvs[i]? = some c → ∃ r, rs[i]? = some r ∧ argDV ρ r = some c
  | [], _, h => by cases h; exact ⟨rfl, fun i c h => by simp at h⟩
  | r :: rs, _, h => by
    obtain ⟨c, e1, e2⟩ := Option.bind_eq_some_iff.mp (show (argDV ρ r).bind (fun c => (argDVs ρ rs).map (c :: ·)) = some _ from h)
    obtain ⟨cs, e3, rfl⟩ := Option.map_eq_some_iff.mp e2
    obtain ⟨l, g⟩ := argDVs_get e3
    refine ⟨by rw [List.length_cons, List.length_cons, l], fun i c' h' => ?_⟩
    cases i with
    | zero =>
      cases (show some c = some c' by simpa using h')
      exact ⟨r, rfl, e1⟩
    | succ i =>
      obtain ⟨r', g1, g2⟩ := g i c' (by simpa using h')
      exact ⟨r', by simpa using g1, g2⟩
theorem als_two : ∀ {rs : List RV} {i j k : Nat}, (alsOf rs).Nodup → rs[i]? = some (RV.al k) → rs[j]? = some (RV.al k) → i = j
  | [], _, _, _, _, h, _ => by simp at h
  | r :: rs, i, j, k, nd, h1, h2 => by
    have mem : ∀ {rs : List RV} {j : Nat}, rs[j]? = some (RV.al k) → k ∈ alsOf rs := by
      intro rs
      induction rs with
      | nil => intro j h; simp at h
      | cons q rs ih =>
        intro j h
        cases j with
        | zero =>
          cases (show some q = some (RV.al k) by simpa using h)
          exact List.mem_cons_self
        | succ j =>
          have := ih (j := j) (by simpa using h)
          cases q with
          | al _ => exact List.mem_cons_of_mem _ this
          | d _ => exact this
          | nl _ => exact this
          | ob _ _ => exact this
    have tl : (alsOf rs).Nodup := by
      cases r with
      | al q => exact (List.nodup_cons.mp nd).2
      | d _ => exact nd
      | nl _ => exact nd
      | ob _ _ => exact nd
    cases i with
    | zero =>
      cases j with
      | zero => rfl
      | succ j =>
        cases (show some r = some (RV.al k) by simpa using h1)
        exact absurd (mem (rs := rs) (j := j) (by simpa using h2)) (List.nodup_cons.mp nd).1
    | succ i =>
      cases j with
      | zero =>
        cases (show some r = some (RV.al k) by simpa using h2)
        exact absurd (mem (rs := rs) (j := i) (by simpa using h1)) (List.nodup_cons.mp nd).1
      | succ j => rw [als_two (i := i) (j := j) tl (by simpa using h1) (by simpa using h2)]
/-- which address an argument that is lent has -/
theorem lent (E : EnvOk K H O σ ρ) (R : RvsOk K H0 H O σ ρ xs rs) (ha : argDVs ρ rs = some dvs) {i : Nat} {c : DV} (hi : dvs[i]? = some c) : ∃ x, xs[i]? = some x ∧ SlotOk K H O (some x) c ∧ (∀ o, c ≠ .own o) ∧
    ∀ o, c = .brw o → ∃ a, x = .ref a ∧ ((∃ k, rs[i]? = some (RV.al k) ∧ Ow ρ k ∧ σ[k]? = some (some (V.ref a))) ∨ (∃ o', rs[i]? = some (RV.nl o') ∧ ¬ Ed σ ρ a ∧ H0 a = none)) := by
  obtain ⟨r, h1, h2⟩ := (argDVs_get ha).2 i c hi
  obtain ⟨x, h3, h4⟩ := rvs_get R.all i r h1
  refine ⟨x, h3, ?_⟩
  cases r with
  | d d =>
    cases (show some (DV.v d) = some c from h2)
    exact ⟨⟨x, rfl, h4⟩, fun o z => (by cases z), fun o z => (by cases z)⟩
  | nl o =>
    cases (show some (DV.brw o) = some c from h2)
    obtain ⟨a, e1, e2, e3, e4, e5⟩ := h4
    subst e1
    exact ⟨⟨a, rfl, e2, e5⟩, fun o z => (by cases z), fun o' z => ⟨a, rfl, .inr ⟨o, h1, e3, e4⟩⟩⟩
  | ob C fs =>
    cases (show some (DV.ob C fs) = some c from h2)
    exact ⟨⟨x, rfl, h4⟩, fun o z => (by cases z), fun o z => (by cases z)⟩
  | al k =>
    have h4 : σ[k]? = some (some x) := h4
    unfold argDV at h2
    dsimp only at h2
    split at h2
    · rename_i d q
      cases h2
      obtain ⟨s, es, y, ey, fy⟩ := E.slot k _ q
      rw [h4] at es
      cases es
      cases ey
      exact ⟨⟨x, rfl, fy⟩, fun o z => (by cases z), fun o z => (by cases z)⟩
    · rename_i o q
      cases h2
      obtain ⟨s, es, a, ea, oa, fa⟩ := E.slot k _ q
      rw [h4] at es
      cases es
      cases ea
      exact ⟨⟨a, rfl, oa, fa⟩, fun o z => (by cases z), fun o' z => ⟨a, rfl, .inl ⟨k, h1, ⟨o, .inl q⟩, h4⟩⟩⟩
    · rename_i o q
      cases h2
      obtain ⟨s, es, a, ea, oa, fa⟩ := E.slot k _ q
      rw [h4] at es
      cases es
      cases ea
      exact ⟨⟨a, rfl, oa, fa⟩, fun o z => (by cases z), fun o' z => ⟨a, rfl, .inl ⟨k, h1, ⟨o, .inr q⟩, h4⟩⟩⟩
    · cases h2
theorem args_env (E : EnvOk K H O σ ρ) (R : RvsOk K H0 H O σ ρ xs rs) (nd : (alsOf rs).Nodup) (ha : argDVs ρ rs = some dvs) : EnvOk K H O (xs.map some) dvs := by
  have hlen : xs.length = rs.length := Paired.length R.all
  refine ⟨by rw [List.length_map, (argDVs_get ha).1, hlen], fun i c hi => ?_, fun i j a h1 h2 e1 e2 => ?_, E.tr⟩
  · obtain ⟨x, g1, g2, _⟩ := lent E R ha hi
    exact ⟨some x, by rw [List.getElem?_map, g1]; rfl, g2⟩
  · have key : ∀ {i : Nat}, Ow dvs i → (xs.map some)[i]? = some (some (V.ref a)) → xs[i]? = some (V.ref a) ∧ ((∃ k, rs[i]? = some (RV.al k) ∧ Ow ρ k ∧ σ[k]? = some (some (V.ref a))) ∨ (∃ o', rs[i]? = some (RV.nl o') ∧ ¬ Ed σ ρ a ∧ H0 a = none)) := fun {i} ⟨o, h⟩ e => by
      rw [List.getElem?_map] at e
      obtain ⟨y, ey, e'⟩ := Option.map_eq_some_iff.mp e
      cases e'
      rcases h with h | h
      · obtain ⟨x, g1, g2, g3, g4⟩ := lent E R ha h
        exact absurd rfl (g3 o)
      · obtain ⟨x, g1, g2, g3, g4⟩ := lent E R ha h
        obtain ⟨b, eb, g5⟩ := g4 o rfl
        rw [ey] at g1
        cases g1
        cases eb
        exact ⟨ey, g5⟩
    obtain ⟨x1, k1⟩ := key h1 e1
    obtain ⟨x2, k2⟩ := key h2 e2
    rcases k1 with ⟨k, r1, o1, s1⟩ | ⟨o', r1, n1, _⟩ <;> rcases k2 with ⟨k', r2, o2, s2⟩ | ⟨o'', r2, n2, _⟩
    · have := E.dis k k' a o1 o2 s1 s2
      subst this
      exact als_two nd r1 r2
    · exact absurd ⟨k, o1, s1⟩ n2
    · exact absurd ⟨k', o2, s2⟩ n1
    · exact R.dis i j a o' o'' r1 r2 x1 x2
theorem args_ed (E : EnvOk K H O σ ρ) (R : RvsOk K H0 H O σ ρ xs rs) (ha : argDVs ρ rs = some dvs) {a : Addr} (h : Ed (xs.map some) dvs a) : Ed σ ρ a ∨ H0 a = none := by
  obtain ⟨i, ⟨o, h1⟩, h2⟩ := h
  rw [List.getElem?_map] at h2
  obtain ⟨y, ey, e'⟩ := Option.map_eq_some_iff.mp h2
  cases e'
  rcases h1 with h1 | h1
  · obtain ⟨x, g1, g2, g3, g4⟩ := lent E R ha h1
    exact absurd rfl (g3 o)
  · obtain ⟨x, g1, g2, g3, g4⟩ := lent E R ha h1
    obtain ⟨b, eb, g5⟩ := g4 o rfl
    rw [ey] at g1
    cases g1
    cases eb
    rcases g5 with ⟨k, _, o1, s1⟩ | ⟨_, _, _, n⟩
    · exact .inl ⟨k, o1, s1⟩
    · exact .inr n
theorem find_al : ∀ {rs : List RV} {j p : Nat}, rs.findIdx? (isAl j) = some p → rs[p]? = some (RV.al j)
  | [], _, _, h => by simp at h
  | r :: rs, j, p, h => by
    rw [List.findIdx?_cons] at h
    split at h
    · rename_i hr
      cases h
      cases r with
      | al i =>
        have : i = j := by simpa [isAl] using hr
        rw [this]
        rfl
      | d _ => cases hr
      | nl _ => cases hr
      | ob _ _ => cases hr
    · obtain ⟨q, e1, rfl⟩ := Option.map_eq_some_iff.mp h
      have := find_al e1
      simpa using this
theorem find_none : ∀ {rs : List RV} {j i : Nat}, rs.findIdx? (isAl j) = none → rs[i]? ≠ some (RV.al j)
  | [], _, _, _ => by simp
  | r :: rs, j, i, h => by
    rw [List.findIdx?_cons] at h
    split at h
    · cases h
    · rename_i hr
      have h' : rs.findIdx? (isAl j) = none := by simpa using h
      cases i with
      | zero =>
        intro e
        cases (show some r = some (RV.al j) by simpa using e)
        exact hr (by simp [isAl])
      | succ i => simpa using find_none (i := i) h'
theorem ow_back {j : Nat} : Ow (putBack ρ rs outs) j ↔ Ow ρ j := by
  unfold Ow putBack
  rw [List.getElem?_mapIdx]
  cases hc : ρ[j]? with
  | none => simp
  | some c =>
    cases c with
    | un => simp [backAt]
    | v d => simp [backAt]
    | ob C fs => simp [backAt]
    | own o =>
      refine ⟨fun _ => ⟨o, .inl rfl⟩, fun _ => ?_⟩
      simp only [Option.map_some, backAt]
      split
      · split
        · exact ⟨_, .inl rfl⟩
        · exact ⟨_, .inl rfl⟩
      · exact ⟨_, .inl rfl⟩
    | brw o =>
      refine ⟨fun _ => ⟨o, .inr rfl⟩, fun _ => ?_⟩
      simp only [Option.map_some, backAt]
      split
      · split
        · exact ⟨_, .inr rfl⟩
        · exact ⟨_, .inr rfl⟩
      · exact ⟨_, .inr rfl⟩
/-- behind a call: the caller's slots -/
theorem call_back (E : EnvOk K H O σ ρ) (R : RvsOk K H0 H O σ ρ xs rs) (nd : (alsOf rs).Nodup) (ha : argDVs ρ rs = some dvs) (E' : EnvOk K H' O' (xs.map some) outs) (S : Stp (xs.map some) dvs O H (xs.map some) outs O' H') : EnvOk K H' O' σ (putBack ρ rs outs) := by
  have Ea := args_env E R nd ha
  have mv : Mv H O H' O' := S.mv Ea
  refine ⟨by unfold putBack; rw [List.length_mapIdx]; exact E.len, fun j c hj => ?_, fun i j a h1 h2 e1 e2 => E.dis i j a (ow_back.mp h1) (ow_back.mp h2) e1 e2, E'.tr⟩
  unfold putBack at hj
  rw [List.getElem?_mapIdx] at hj
  obtain ⟨c0, q0, rfl⟩ := Option.map_eq_some_iff.mp hj
  obtain ⟨s, es, q⟩ := E.slot j c0 q0
  refine ⟨s, es, ?_⟩
  -- an own list that isn't lent
  have still : ∀ {a : Addr} {o : OC}, Ow ρ j → s = some (V.ref a) → O a → OcAt K H O a o → rs.findIdx? (isAl j) = none → O' a ∧ OcAt K H' O' a o := fun {a o} oj es' oa fa hn => by
    have ne : ¬ Ed (xs.map some) dvs a := fun ⟨i, ⟨oi, hi⟩, hs⟩ => by
      rw [List.getElem?_map] at hs
      obtain ⟨y, ey, e'⟩ := Option.map_eq_some_iff.mp hs
      cases e'
      rcases hi with hi | hi
      · obtain ⟨x, g1, g2, g3, g4⟩ := lent E R ha hi
        exact absurd rfl (g3 oi)
      · obtain ⟨x, g1, g2, g3, g4⟩ := lent E R ha hi
        obtain ⟨b, eb, g5⟩ := g4 oi rfl
        rw [ey] at g1
        cases g1
        cases eb
        rcases g5 with ⟨k, r1, o1, s1⟩ | ⟨_, _, n, _⟩
        · have := E.dis j k a oj o1 (by rw [es, es']) s1
          subst this
          exact find_none hn r1
        · exact n ⟨j, oj, by rw [es, es']⟩
    refine ⟨S.stay a oa ne, fa.mv mv ?_⟩
    cases hH : H a with
    | none => exact absurd hH fa.there
    | some u => exact S.keep a u hH ne
  -- a lent one
  have back : ∀ {a : Addr} {p : Nat}, Ow ρ j → s = some (V.ref a) → rs.findIdx? (isAl j) = some p → ∃ o', outs[p]? = some (DV.brw o') ∧ O' a ∧ OcAt K H' O' a o' := fun {a p} oj es' hp => by
    have hr := find_al hp
    have hpl : p < dvs.length := by
      rw [(argDVs_get ha).1]
      exact (List.getElem?_eq_some_iff.mp hr).1
    have hd := List.getElem?_eq_getElem hpl
    obtain ⟨r, g1, g2⟩ := (argDVs_get ha).2 p _ hd
    rw [hr] at g1
    cases g1
    obtain ⟨o0, hb⟩ : ∃ o0, dvs[p] = DV.brw o0 := by
      obtain ⟨o0, oj⟩ := oj
      unfold argDV at g2
      rcases oj with oj | oj
      · dsimp only at g2
        rw [oj] at g2
        exact ⟨o0, (Option.some.inj g2).symm⟩
      · dsimp only at g2
        rw [oj] at g2
        exact ⟨o0, (Option.some.inj g2).symm⟩
    rw [hb] at hd
    obtain ⟨⟨o', h1⟩, _⟩ := S.bst p o0 hd
    obtain ⟨s', es2, b, eb, ob, fb⟩ := E'.slot p _ h1
    obtain ⟨x, y1, y2⟩ := rvs_get R.all p _ hr
    have y2 : σ[j]? = some (some x) := y2
    rw [es, es'] at y2
    cases y2
    rw [List.getElem?_map, y1] at es2
    cases es2
    cases eb
    exact ⟨o', h1, ob, fb⟩
  cases c0 with
  | un => exact True.intro
  | v d =>
    obtain ⟨y, e1, e2⟩ := q
    exact ⟨y, e1, Fz.mv mv d y e2⟩
  | ob C fs =>
    obtain ⟨y, e1, e2⟩ := q
    exact ⟨y, e1, e2.mv mv⟩
  | own o =>
    obtain ⟨a, e1, oa, fa⟩ := q
    have oj : Ow ρ j := ⟨o, .inl q0⟩
    cases hf : rs.findIdx? (isAl j) with
    | none =>
      obtain ⟨z1, z2⟩ := still oj e1 oa fa hf
      simp only [backAt, hf]
      exact ⟨a, e1, z1, z2⟩
    | some p =>
      obtain ⟨o', h1, z1, z2⟩ := back oj e1 hf
      simp only [backAt, hf, h1]
      exact ⟨a, e1, z1, z2⟩
  | brw o =>
    obtain ⟨a, e1, oa, fa⟩ := q
    have oj : Ow ρ j := ⟨o, .inr q0⟩
    cases hf : rs.findIdx? (isAl j) with
    | none =>
      obtain ⟨z1, z2⟩ := still oj e1 oa fa hf
      simp only [backAt, hf]
      exact ⟨a, e1, z1, z2⟩
    | some p =>
      obtain ⟨o', h1, z1, z2⟩ := back oj e1 hf
      simp only [backAt, hf, h1]
      exact ⟨a, e1, z1, z2⟩
theorem brw_back {j : Nat} {o : OC} (h : ρ[j]? = some (DV.brw o)) : ∃ o', (putBack ρ rs outs)[j]? = some (DV.brw o') := by
  unfold putBack
  rw [List.getElem?_mapIdx, h]
  simp only [Option.map_some, backAt]
  split
  · split
    · exact ⟨_, rfl⟩
    · exact ⟨_, rfl⟩
  · exact ⟨_, rfl⟩
/-- .. the step of a call, from the arguments on -/
theorem call_stp {ρ0 : Ev} {O0 : Addr → Prop} (tr : ∀ a, O0 a → H0 a ≠ none) (E : EnvOk K H O σ ρ) (S0 : Stp σ ρ0 O0 H0 σ ρ O H) (R : RvsOk K H0 H O σ ρ xs rs) (ha : argDVs ρ rs = some dvs) (S : Stp (xs.map some) dvs O H (xs.map some) outs O' H') :
    Stp σ ρ0 O0 H0 σ (putBack ρ rs outs) O' H' := by
  have edd : ∀ a, H0 a ≠ none → ¬ Ed σ ρ0 a → ¬ Ed (xs.map some) dvs a := fun a h n z => by
    rcases args_ed E R ha z with w | w
    · exact (S0.env a w).elim n h
    · exact h w
  refine ⟨fun a o h n => S.keep a o (S0.keep a o h n) (edd a (by rw [h]; exact nofun) n), fun a h => S.there a (S0.there a h), fun a h => (S.sub a h).elim (S0.sub a) fun z => .inr (Classical.byContradiction fun q => S0.there a q z),
    fun a h n => S.stay a (S0.stay a h n) (edd a (tr a h) n), fun a ⟨j, h1, h2⟩ => S0.env a ⟨j, ow_back.mp h1, h2⟩, fun j o hj => ?_⟩
  obtain ⟨⟨o1, z1⟩, z2⟩ := S0.bst j o hj
  exact ⟨brw_back z1, z2⟩
end
section
variable {X : Cx} {k : Nat} {f : Addr} {fd : FuncData} {ps : List Str} {fm : ME} {x : Str} {p pos : Pos} {e : Expr} {es : List Expr} {ms : MA}
/-- a call's end -/
theorem call_of {σ : L2.St} {H : Hp} {Q : VK} {xs : List V} {rs : List RV} {ρ ρ0 ρ' : Ev} {O O0 : Addr → Prop} {H0 : Hp} {r : RV} {dvs : Ev} (tr : ∀ a, O0 a → H0 a ≠ none) (E : EnvOk X.K H O σ ρ) (S0 : Stp σ ρ0 O0 H0 σ ρ O H) (R : RvsOk X.K H0 H O σ ρ xs rs) (nd : (alsOf rs).Nodup) (ha : argDVs ρ rs = some dvs)
    (h : ((fm dvs).bind fun q => match q.1 with
      | .d d => some (RV.d d, putBack ρ rs q.2)
      | .nl o => some (.nl o, putBack ρ rs q.2)
      | .ob C fs => some (.ob C fs, putBack ρ rs q.2)
      | .al _ => none) = some (r, ρ'))
    (k : ∀ x H' O', EnvOk X.K H' O' σ ρ' → Stp σ ρ0 O0 H0 σ ρ' O' H' → RvOk X.K H0 H' O' σ ρ' x r → Q x H') : tE X.K fm (xs.map some) H Q := by
  obtain ⟨⟨r1, outs⟩, e1, e2⟩ := Option.bind_eq_some_iff.mp h
  refine ⟨dvs, O, r1, outs, args_env E R nd ha, e1, fun x H' O' E' S R1 => ?_⟩
  have EB := call_back E R nd ha E' S
  have SB := call_stp tr E S0 R ha S
  cases r1 with
  | al i => cases e2
  | d d => cases e2; exact k x H' O' EB SB R1
  | ob C fs => cases e2; exact k x H' O' EB SB R1
  | nl o =>
    cases e2
    obtain ⟨a, rfl, h1, h2, h3, h4⟩ := R1
    refine k _ H' O' EB SB ⟨a, rfl, h1, fun ⟨j, w1, w2⟩ => ?_, Classical.byContradiction fun q => S0.there a q h3, h4⟩
    exact E.tr a (E.ed ⟨j, ow_back.mp w1, w2⟩) h3
theorem run_g {pins : List (Addr × Obj)} {σ : L2.St} {H : Hp} {s : Shared} {Q : VK} {us : List Value} {vs : List V} (F : FnG X.prog X.w X.K X.mg X.base k f fd ps fm) (hr : Room k X.A) (hg : X.A.guards = some []) (hb : Binds X.K fd ps []) (I : Inv X pins σ H s) (r : Vals vs us)
    (h : tE X.K fm (vs.map some) H Q) : wpAny (model X.prog X.w) X.A (call (.ref f) us) (EP X pins σ Q) X.xe s := by
  have hu : us.length = ps.length := by rw [← r.length]; exact F.argc h
  have bd : BindsTo s fd ⟨us, []⟩ (ps.zip us) := by
    have := hb s us I.kIn (by rw [List.append_nil]; exact hu)
    rwa [List.append_nil] at this
  refine wpAny_call (codeAny_mono (F.run X.A X.stack s H ⟨us, []⟩ us vs Q hr hg I.env0 bd r h) fun z s' hq => ?_)
  cases z with
  | error e => exact False.elim hq
  | ok fl =>
    cases fl with
    | ret u => exact I.after hq
    | next => exact False.elim hq
    | brk => exact False.elim hq
    | cont => exact False.elim hq
theorem p_call (F : FnG X.prog X.w X.K X.mg X.base k f fd ps fm) (hr : Room k X.A) (hgd : X.A.guards = some []) (hm : X.mg x = some (.ref f)) (hk : PySem.W.keepIn X.K (.ref f) = true) (hb : Binds X.K fd ps []) (ha : PA X (e :: es) (tA X.K ms))
    (hg : Gl X x := by rfl) (hdb : (x == ("__debug__" : Str)) = false := by decide) (he : starEach (e :: es) X.env = (false, eval e X.env) :: starEach es X.env := by rfl) (hpl : (backTo pos (starEach es X.env)).any (·.1) = false := by rfl) :
    PE X (.Call (.Name x p) (e :: es) [] pos) (tE X.K (mCall fm ms)) := by
  refine ⟨fun pins s σ H Q I ⟨ρ, O, r, ρ', E, e1, kk⟩ => ?_⟩
  obtain ⟨⟨rs, ρ1⟩, e2, e3⟩ := Option.bind_eq_some_iff.mp e1
  dsimp only at e3
  split at e3
  · rename_i nd
    obtain ⟨dvs, e4, e5⟩ := Option.bind_eq_some_iff.mp e3
    refine wpAny_Call_Name_kw (ld_glob I hg hm ?_ hdb)
    refine PySem.W.callWith_K (h₀ := X.base) I.ok.mod.kin hk (thn (ha.run pos pins s σ H (fun xs H1 => tE X.K fm (xs.map some) H1 Q) I ⟨ρ, O, rs, ρ1, E, e2, fun xs H1 O1 E1 S1 R1 => call_of E.tr E1 S1 R1 nd e4 e5 kk⟩) fun us s1 ⟨vs, H1, I1, r, q⟩ => ⟨I1.kIn, ?_⟩) he hpl
    exact run_g F hr hgd hb I1 r q
  · cases e3
end
end PL

/-! PL7: what is walked; for; while; comprehensions. -/
namespace PL
open PySem PySem.Spec PyProof.Rows L2
variable [TheW]

/-! ### sources -/
section
variable {K : PySem.W.Frag}
theorem src_list {a : Addr} {ds : List D} : ISrc K (Fz K) (Itl K a) (fun H O => Fz K H O (.ref a) (.list ds)) ds where
  stop := fun i H O f h => by
    cases f with
    | lst h1 h2 => exact ⟨_, h1.sq, by rw [h2.length]; exact h⟩
  go := fun i H O f h => by
    cases f with
    | lst h1 h2 =>
      obtain ⟨x, e, _⟩ := h2.get (List.getElem?_eq_getElem h)
      exact ⟨_, x, h1.sq, e⟩
  yld := fun i H O x H' f tr h y => by
    obtain ⟨e, y⟩ := y
    subst e
    cases f with
    | lst h1 h2 =>
      obtain ⟨z, e, fz⟩ := h2.get (List.getElem?_eq_getElem h)
      have := (y _ h1.sq).symm.trans e
      cases this
      exact ⟨fun _ _ q => q, ds[i], List.getElem?_eq_getElem h, fz⟩
  mv := fun H O H' O' f m => Fz.mv m _ _ f
theorem src_tup {a : Addr} {ds : List D} : ISrc K (Fz K) (Itt K a) (fun H O => Fz K H O (.ref a) (.tuple ds)) ds where
  stop := fun i H O f h => by
    cases f with
    | tup h1 h2 => exact ⟨_, h1.sq, by rw [h2.length]; exact h⟩
  go := fun i H O f h => by
    cases f with
    | tup h1 h2 =>
      obtain ⟨x, e, _⟩ := h2.get (List.getElem?_eq_getElem h)
      exact ⟨_, x, h1.sq, e⟩
  yld := fun i H O x H' f tr h y => by
    obtain ⟨e, y⟩ := y
    subst e
    cases f with
    | tup h1 h2 =>
      obtain ⟨z, e, fz⟩ := h2.get (List.getElem?_eq_getElem h)
      have := (y _ h1.sq).symm.trans e
      cases this
      exact ⟨fun _ _ q => q, ds[i], List.getElem?_eq_getElem h, fz⟩
  mv := fun H O H' O' f m => Fz.mv m _ _ f
def rangeD (lo : Int) (n : Nat) : List D := (List.range n).map fun (i : Nat) => PyData.int (lo + i)
theorem src_range {lo : Int} {n : Nat} : ISrc K (Fz K) (Itr lo n) (fun _ _ => True) (rangeD lo n) where
  stop := fun i H O _ h => by
    have h' : n ≤ i := by simpa [rangeD] using h
    exact h'
  go := fun i H O _ h => by
    have h' : i < n := by simpa [rangeD] using h
    exact h'
  yld := fun i H O x H' _ tr h y => by
    obtain ⟨e, y⟩ := y
    subst e
    subst y
    have h' : i < n := by simpa [rangeD] using h
    exact ⟨fun _ _ q => q, .int (lo + i), by simp [rangeD, h'], .int _⟩
  mv := fun _ _ _ _ _ _ => trivial
def signsD (z : Str) : List D := z.cps.toList.map fun c => PyData.str ⟨#[c]⟩
theorem src_str {z : Str} : ISrc K (Fz K) (Its z) (fun _ _ => True) (signsD z) where
  stop := fun i H O _ h => by
    have h' : z.cps.toList.length ≤ i := by simpa [signsD] using h
    show z.cps.size ≤ i
    simpa using h'
  go := fun i H O _ h => by
    have h' : i < z.cps.toList.length := by simpa [signsD] using h
    show i < z.cps.size
    simpa using h'
  yld := fun i H O x H' _ tr h y => by
    obtain ⟨e, c, hc, y⟩ := y
    subst e
    subst y
    refine ⟨fun _ _ q => q, .str ⟨#[c]⟩, ?_, .str _⟩
    unfold signsD
    rw [List.getElem?_map, Array.getElem?_toList, hc]
    rfl
  mv := fun _ _ _ _ _ _ => trivial
end
section
variable {X : Cx} {tg e : Expr} {es : List Expr} {m : ME} {ms : MDs} {p pos : Pos}
/-- a list, a tuple or a text that stands still -/
def seqD : D → Option (List D)
  | .list ds => some ds
  | .tuple ds => some ds
  | .str z => some (signsD z)
  | _ => none
def mSeqI (m : ME) : MDs := fun ρ => (mF m ρ).bind fun p => (seqD p.1).map fun ds => (ds, p.2)
theorem i_seq (he : PE X e (tE X.K m)) : PI X tg e (tI X.K (mSeqI m)) := by
  refine ⟨fun pins s σ H R I ⟨ρ, O, items, ρ', E, e1, k⟩ => ?_⟩
  obtain ⟨⟨d, ρ1⟩, e2, e3⟩ := Option.bind_eq_some_iff.mp e1
  obtain ⟨ds, e4, e5⟩ := Option.map_eq_some_iff.mp e3
  cases e5
  have go := (pd_of he).run pins s σ H (fun x H1 => ∃ O1, EnvOk X.K H1 O1 σ ρ1 ∧ Stp σ ρ O H σ ρ1 O1 H1 ∧ Fz X.K H1 O1 x d) I ⟨ρ, O, d, ρ1, E, e2, fun x H1 O1 E1 S1 F1 => ⟨O1, E1, S1, F1⟩⟩
  refine thn go fun v s1 ⟨x, H1, I1, r1, O1, E1, S1, F1⟩ => ?_
  have newIt : ∀ b ∈ [s1.heap.objs.size], FpOk X pins H1 b := fun b hb => by
    rw [List.mem_singleton.mp hb]
    exact I1.fpOk (Nat.le_refl _) (I1.hok.fresh (Nat.le_refl _))
  cases d with
  | list ds' =>
    cases e4
    cases F1 with
    | lst h1 h2 =>
      cases r1
      obtain ⟨its, rv, pl, hz⟩ := I1.list h1.sq
      refine wpAny_pyIter_list pl.isList ⟨s1.heap.objs.size, [s1.heap.objs.size], _, _, H1, rfl, I1.kept (t' := s1.toks) fun b o q => Heap.get?_push_of_some _ q, turn_list _ _, ⟨_, Heap.get?_push_size _ rfl, rfl, rfl⟩, newIt, ?_⟩
      exact k _ _ H1 O1 E1 S1 src_list (.lst h1 h2)
  | tuple ds' =>
    cases e4
    cases F1 with
    | tup h1 h2 =>
      cases r1
      obtain ⟨its, rv, pl, hz⟩ := I1.tuple h1.sq
      refine wpAny_pyIter_tuple (show s1.heap.IsTuple _ its.toArray from pl) ⟨s1.heap.objs.size, [s1.heap.objs.size], _, _, H1, rfl, I1.kept (t' := s1.toks) fun b o q => Heap.get?_push_of_some _ q, turn_tuple _ _, ⟨_, Heap.get?_push_size _ rfl, rfl, rfl⟩, newIt, ?_⟩
      exact k _ _ H1 O1 E1 S1 src_tup (.tup h1 h2)
  | str z =>
    cases e4
    cases F1
    obtain ⟨t, rfl⟩ := r1
    have fin := k _ _ H1 O1 E1 S1 (src_str (K := X.K) (z := z)) trivial
    cases ha : z.cps.all (· < 128)
    · exact wpAny_pyIter_wide ha (pi_one (tk := s1.toks) I1 _ (turn_str _ z t "str_iterator" (.inr rfl)) ⟨_, Heap.get?_push_size _ rfl, rfl, rfl⟩ fin)
    · exact wpAny_pyIter_ascii ha (pi_one (tk := s1.toks) I1 _ (turn_str _ z t "str_ascii_iterator" (.inl rfl)) ⟨_, Heap.get?_push_size _ rfl, rfl, rfl⟩ fin)
  | _ => cases e4
/-- range(n), range(a, b) -/
def rangeOf1 : List D → Option (List D)
  | [.int j] => if -(2 ^ 62) ≤ j ∧ j < 2 ^ 62 then some (rangeD 0 j.toNat) else none
  | _ => none
def rangeOf2 : List D → Option (List D)
  | [.int i, .int j] => if -(2 ^ 62) ≤ i ∧ i < 2 ^ 62 ∧ -(2 ^ 62) ≤ j ∧ j < 2 ^ 62 then some (rangeD i (j - i).toNat) else none
  | _ => none
def mRange1 (ms : MDs) : MDs := fun ρ => (ms ρ).bind fun p => (rangeOf1 p.1).map fun ds => (ds, p.2)
def mRange2 (ms : MDs) : MDs := fun ρ => (ms ρ).bind fun p => (rangeOf2 p.1).map fun ds => (ds, p.2)
theorem fz_one {K : PySem.W.Frag} {H : Hp} {O : Addr → Prop} {xs : List V} {i : Int} (h : FzAll K H O xs [.int i]) : xs = [.int i] := fz_ints (ns := [i]) h
theorem fz_two {K : PySem.W.Frag} {H : Hp} {O : Addr → Prop} {xs : List V} {i j : Int} (h : FzAll K H O xs [.int i, .int j]) : xs = [.int i, .int j] := fz_ints (ns := [i, j]) h
theorem i_range1 {a : Expr} (hm : X.mg "range" = none) (ha : PA X [a] (tDs X.K ms)) (hg : Gl X "range" := by rfl) (hs : starEach [a] X.env = [(false, eval a X.env)] := by rfl) : PI X tg (.Call (.Name "range" p) [a] [] pos) (tI X.K (mRange1 ms)) :=
  PI.of (pi_range1 hg hm ha hs) fun σ H R ⟨ρ, O, items, ρ', E, e1, k⟩ => by
    obtain ⟨⟨ds, ρ1⟩, e2, e3⟩ := Option.bind_eq_some_iff.mp e1
    obtain ⟨is, e4, e5⟩ := Option.map_eq_some_iff.mp e3
    cases e5
    dsimp only at e4
    refine ⟨ρ, O, ds, _, E, e2, fun xs H1 O1 E1 S1 F1 => ?_⟩
    unfold rangeOf1 at e4
    split at e4
    · split at e4
      · rename_i hb
        cases e4
        exact ⟨_, fz_one F1, hb.1, hb.2, k _ _ H1 O1 E1 S1 src_range trivial⟩
      · cases e4
    · cases e4
theorem i_range2 {a b : Expr} (hm : X.mg "range" = none) (ha : PA X [a, b] (tDs X.K ms)) (hg : Gl X "range" := by rfl) (hs : starEach [a, b] X.env = [(false, eval a X.env), (false, eval b X.env)] := by rfl) (hs2 : starEach [b] X.env = [(false, eval b X.env)] := by rfl) :
    PI X tg (.Call (.Name "range" p) [a, b] [] pos) (tI X.K (mRange2 ms)) :=
  PI.of (pi_range2 hg hm ha hs hs2) fun σ H R ⟨ρ, O, items, ρ', E, e1, k⟩ => by
    obtain ⟨⟨ds, ρ1⟩, e2, e3⟩ := Option.bind_eq_some_iff.mp e1
    obtain ⟨is, e4, e5⟩ := Option.map_eq_some_iff.mp e3
    cases e5
    dsimp only at e4
    refine ⟨ρ, O, ds, _, E, e2, fun xs H1 O1 E1 S1 F1 => ?_⟩
    unfold rangeOf2 at e4
    split at e4
    · split at e4
      · rename_i hb
        cases e4
        exact ⟨_, _, fz_two F1, hb, k _ _ H1 O1 E1 S1 src_range trivial⟩
      · cases e4
    · cases e4
end

/-! ### for, while -/
def mLoop (g : MG) (b : MS) : List D → MS
  | [] => fun ρ => some (.nx, ρ)
  | d :: ds => fun ρ => (g d ρ).bind fun ρ1 => (b ρ1).bind fun p => match p.1 with
    | .nx => mLoop g b ds p.2
    | .ct => mLoop g b ds p.2
    | .bk => some (.nx, p.2)
    | .rt r => some (.rt r, p.2)
def mFor (mi : MDs) (g : MG) (b : MS) : MS := fun ρ => (mi ρ).bind fun p => mLoop g b p.1 p.2
def mWhile (c : MT) (b : MS) : Nat → MS
  | 0 => fun _ => none
  | n + 1 => fun ρ => (c ρ).bind fun p => if p.1 = true then (b p.2).bind fun q => match q.1 with
    | .nx => mWhile c b n q.2
    | .ct => mWhile c b n q.2
    | .bk => some (.nx, q.2)
    | .rt r => some (.rt r, q.2)
    else some (.nx, p.2)
section
variable {K : PySem.W.Frag} {H H' : Hp} {O O' : Addr → Prop} {σ : L2.St} {ρ : Ev}
/-- the heap has grown by what a turn yields -/
theorem EnvOk.yield (E : EnvOk K H O σ ρ) (keep : ∀ a o, H a = some o → H' a = some o) : EnvOk K H' O σ ρ ∧ Stp σ ρ O H σ ρ O H' :=
  ⟨E.grow keep (fun _ h => .inl h) (fun _ h => h) fun a h => by
    cases q : H a with
    | none => exact absurd q (E.tr a h)
    | some u => rw [keep a u q]; exact nofun, .grow keep (fun _ h => .inl h) fun _ h => h⟩
end
section
variable {X : Cx} {tg iter c : Expr} {body : List Stmt} {mi : MDs} {g : MG} {b : MS} {mt : MT} {pos : Pos}
theorem s_for {F : Hp → (Addr → Prop) → V → D → Prop} {vs : List Nat} (hp : PassesOwn (model X.prog X.w) X.A X.env X.xe) (hi : PI X tg iter (tIF X.K F mi)) (hg : PG X tg (tGF X.K F vs g)) (hb : PSs X body (tS X.K b)) (hc : X.calm = true := by rfl) (hs : ∀ x, foldedSetIterable iter X.env x = pure x := by intro _; rfl) :
    PS X (.For tg iter body [] pos) (tS X.K (mFor mi g b)) := PS.of (ps_for hp hc hi hg hb hs) fun σ H D ⟨ρ, O, o, ρ', E, e1, k⟩ => by
  obtain ⟨⟨items, ρ1⟩, e2, e3⟩ := Option.bind_eq_some_iff.mp e1
  refine ⟨ρ, O, items, ρ1, E, e2, fun J P H1 O1 E1 S1 Sr P1 => ?_⟩
  refine ⟨fun i m σi Hi => m = items.length - i ∧ i ≤ items.length ∧ ∃ ρi Oi, EnvOk X.K Hi Oi σi ρi ∧ Stp σ ρ O H σi ρi Oi Hi ∧ mLoop g b (items.drop i) ρi = some (o, ρ') ∧ P Hi Oi,
    ⟨items.length, rfl, Nat.zero_le _, ρ1, O1, E1, S1, e3, P1⟩, ?_⟩
  rintro i m σi Hi ⟨rfl, hil, ρi, Oi, Ei, Si, li, Pi⟩
  by_cases hlt : i < items.length
  · refine .inr ⟨Sr.go i Hi Oi Pi hlt, fun σ' H' => ∃ m', m' < items.length - i ∧ m' = items.length - (i + 1) ∧ i + 1 ≤ items.length ∧ ∃ ρi Oi, EnvOk X.K H' Oi σ' ρi ∧ Stp σ ρ O H σ' ρi Oi H' ∧ mLoop g b (items.drop (i + 1)) ρi = some (o, ρ') ∧ P H' Oi,
      fun σ' H' ⟨m', h1, h2⟩ => ⟨m', h1, h2⟩, fun x Hy y => ?_⟩
    obtain ⟨keep, d, hd, fx⟩ := Sr.yld i Hi Oi x Hy Pi Ei.tr hlt y
    obtain ⟨Ey, Sy⟩ := Ei.yield keep
    have Py : P Hy Oi := Sr.mv _ _ _ _ Pi (Sy.mv Ei)
    have hcons : items.drop i = d :: items.drop (i + 1) := by
      rw [List.drop_eq_getElem_cons hlt]
      have : items[i] = d := by
        rw [List.getElem?_eq_getElem hlt] at hd
        exact Option.some.inj hd
      rw [this]
    rw [hcons] at li
    obtain ⟨ρ2, g1, li⟩ := Option.bind_eq_some_iff.mp (show (g d ρi).bind _ = _ from li)
    obtain ⟨⟨o2, ρ3⟩, b1, li⟩ := Option.bind_eq_some_iff.mp li
    refine ⟨ρi, Oi, d, ρ2, Ey, fx, g1, fun σ2 H2 O2 E2 S2 _ => ?_⟩
    have P2 : P H2 O2 := Sr.mv _ _ _ _ Py (S2.mv Ey)
    have S02 := Stp.trans E.tr Si (Stp.trans Ei.tr Sy S2)
    refine ⟨ρ2, O2, o2, ρ3, E2, b1, fun σ3 H3 O3 E3 S3 => ?_⟩
    have P3 : P H3 O3 := Sr.mv _ _ _ _ P2 (S3.mv E2)
    have S03 := Stp.trans E.tr S02 S3
    cases o2 with
    | nx => exact ⟨_, by omega, rfl, hlt, ρ3, O3, E3, S03, li, P3⟩
    | ct => exact ⟨_, by omega, rfl, hlt, ρ3, O3, E3, S03, li, P3⟩
    | bk =>
      cases li
      exact k σ3 H3 O3 E3 S03
    | rt r =>
      cases li
      exact fun x R => k σ3 H3 O3 E3 S03 x (R.back S02.there)
  · have hi : i = items.length := by omega
    subst hi
    refine .inl ⟨Sr.stop _ Hi Oi Pi (Nat.le_refl _), ?_⟩
    rw [List.drop_length] at li
    cases li
    exact k σi Hi Oi Ei Si
theorem s_while (n : Nat) (hp : PassesOwn (model X.prog X.w) X.A X.env X.xe) (hc : PT X c (tT X.K mt)) (hb : PSs X body (tS X.K b)) : PS X (.While c body [] pos) (tS X.K (mWhile mt b n)) := PS.of (ps_while hp hc hb) fun σ H D ⟨ρ, O, o, ρ', E, e1, k⟩ => by
  refine ⟨fun m σi Hi => ∃ ρi Oi, EnvOk X.K Hi Oi σi ρi ∧ Stp σ ρ O H σi ρi Oi Hi ∧ mWhile mt b m ρi = some (o, ρ'), ⟨n, ρ, O, E, .refl, e1⟩, ?_⟩
  rintro m σi Hi ⟨ρi, Oi, Ei, Si, li⟩
  cases m with
  | zero => cases li
  | succ m =>
    obtain ⟨⟨t, ρ1⟩, c1, li⟩ := Option.bind_eq_some_iff.mp (show (mt ρi).bind _ = _ from li)
    refine ⟨ρi, Oi, t, ρ1, Ei, c1, fun H1 O1 E1 S1 => ?_⟩
    have S01 := Stp.trans E.tr Si S1
    cases t with
    | false =>
      cases li
      exact iteF (k σi H1 O1 E1 S01)
    | true =>
      obtain ⟨⟨o2, ρ2⟩, b1, li⟩ := Option.bind_eq_some_iff.mp li
      refine iteT ⟨fun σ' H' => ∃ ρi Oi, EnvOk X.K H' Oi σ' ρi ∧ Stp σ ρ O H σ' ρi Oi H' ∧ mWhile mt b m ρi = some (o, ρ'), fun σ' H' q => ⟨m, Nat.lt_succ_self m, q⟩, ρ1, O1, o2, ρ2, E1, b1, fun σ3 H3 O3 E3 S3 => ?_⟩
      have S03 := Stp.trans E.tr S01 S3
      cases o2 with
      | nx => exact ⟨ρ2, O3, E3, S03, li⟩
      | ct => exact ⟨ρ2, O3, E3, S03, li⟩
      | bk =>
        cases li
        exact k σ3 H3 O3 E3 S03
      | rt r =>
        cases li
        exact fun x R => k σ3 H3 O3 E3 S03 x (R.back S01.there)
end

/-! ### list comprehensions -/
/-- the block's own names forgotten -/
def wipeE (ρ : Ev) : List Nat → Ev
  | [] => ρ
  | v :: vs => (wipeE ρ vs).set v .un
/-- they hold no list -/
def freeE (ρ : Ev) (vs : List Nat) : Bool := vs.all fun v => match ρ[v]? with
  | some .un => true
  | some (.v _) => true
  | _ => false
/-- the slots behind the block: ρ0 ahead of it -/
def unwipe (ρ0 ρ : Ev) (vs : List Nat) : Ev := ρ.mapIdx fun j c => if j ∈ vs then (ρ0[j]?).getD .un else c
def mLcGo (g : MG) (t : MT) (m : MD) (vs : List Nat) : List D → List D → Ev → Option (List D × Ev)
  | [], acc, ρ => some (acc, ρ)
  | d :: ds, acc, ρ => (g d ρ).bind fun ρ1 => (t ρ1).bind fun p => if p.1 = true then (m p.2).bind fun q => if acc.length < sizeLine then mLcGo g t m vs ds (acc ++ [q.1]) (wipeE q.2 vs) else none
    else mLcGo g t m vs ds acc (wipeE p.2 vs)
def mLc (mi : MDs) (g : MG) (t : MT) (m : MD) (vs : List Nat) : ME := fun ρ => (mi ρ).bind fun p => if freeE p.2 vs = true then (mLcGo g t m vs p.1 [] (wipeE p.2 vs)).map fun q => (.nl (.L q.1), unwipe p.2 q.2 vs) else none
end PL

/-! PL8: list comprehensions. -/
namespace PL
open PySem PySem.Spec PyProof.Rows L2
variable [TheW]
section
variable {K : PySem.W.Frag} {H H' H0 H1 : Hp} {O O' O0 O1 : Addr → Prop} {σ σ' σ0 : L2.St} {ρ ρ' ρ0 : Ev} {vs : List Nat} {D : Addr}
theorem wipe_in : ∀ {vs : List Nat} {j : Nat}, j ∈ vs → j < σ.length → (wipe σ vs)[j]? = some none
  | v :: vs, j, h, hl => by
    unfold wipe
    by_cases e : j = v
    · subst e
      rw [List.getElem?_set_self (by rw [wipe_length]; exact hl)]
    · rw [set_ne e]
      exact wipe_in ((List.mem_cons.mp h).resolve_left e) hl
theorem wipe_out : ∀ {vs : List Nat} {j : Nat}, j ∉ vs → (wipe σ vs)[j]? = σ[j]?
  | [], _, _ => rfl
  | v :: vs, j, h => by
    unfold wipe
    rw [set_ne (fun e : j = v => h (by rw [e]; exact List.mem_cons_self))]
    exact wipe_out fun z => h (List.mem_cons_of_mem _ z)
theorem wipeE_length : ∀ vs : List Nat, (wipeE ρ vs).length = ρ.length
  | [] => rfl
  | v :: vs => by unfold wipeE; rw [List.length_set, wipeE_length vs]
theorem wipeE_in : ∀ {vs : List Nat} {j : Nat}, j ∈ vs → j < ρ.length → (wipeE ρ vs)[j]? = some .un
  | v :: vs, j, h, hl => by
    unfold wipeE
    by_cases e : j = v
    · subst e
      rw [List.getElem?_set_self (by rw [wipeE_length]; exact hl)]
    · rw [set_ne e]
      exact wipeE_in ((List.mem_cons.mp h).resolve_left e) hl
theorem wipeE_out : ∀ {vs : List Nat} {j : Nat}, j ∉ vs → (wipeE ρ vs)[j]? = ρ[j]?
  | [], _, _ => rfl
  | v :: vs, j, h => by
    unfold wipeE
    rw [set_ne (fun e : j = v => h (by rw [e]; exact List.mem_cons_self))]
    exact wipeE_out fun z => h (List.mem_cons_of_mem _ z)
theorem ow_wipe {j : Nat} (h : Ow (wipeE ρ vs) j) : j ∉ vs ∧ Ow ρ j := by
  have n : j ∉ vs := fun z => by
    obtain ⟨o, h⟩ := h
    have hl : j < ρ.length := by
      rw [← wipeE_length (ρ := ρ) vs]
      rcases h with h | h <;> exact (List.getElem?_eq_some_iff.mp h).1
    rw [wipeE_in z hl] at h
    rcases h with h | h <;> cases h
  refine ⟨n, ?_⟩
  unfold Ow at h
  rw [wipeE_out n] at h
  exact h
theorem wipe_eq (e : ∀ j : Nat, j ∉ vs → σ'[j]? = σ[j]?) (hl : σ'.length = σ.length) : wipe σ' vs = wipe σ vs := by
  refine List.ext_getElem? fun j => ?_
  by_cases h : j ∈ vs
  · by_cases hj : j < σ.length
    · rw [wipe_in h hj, wipe_in h (by omega)]
    · rw [List.getElem?_eq_none (by rw [wipe_length]; omega), List.getElem?_eq_none (by rw [wipe_length]; omega)]
  · rw [wipe_out h, wipe_out h]
    exact e j h
theorem wipe_wipe : wipe (wipe σ vs) vs = wipe σ vs := wipe_eq (fun j h => wipe_out h) (wipe_length σ vs)
theorem EnvOk.wiped (E : EnvOk K H O σ ρ) : EnvOk K H O (wipe σ vs) (wipeE ρ vs) := by
  refine ⟨by rw [wipe_length, wipeE_length]; exact E.len, fun j c hj => ?_, fun i j a h1 h2 e1 e2 => ?_, E.tr⟩
  · by_cases h : j ∈ vs
    · have hl : j < ρ.length := by
        rw [← wipeE_length (ρ := ρ) vs]
        exact (List.getElem?_eq_some_iff.mp hj).1
      rw [wipeE_in h hl] at hj
      cases hj
      exact ⟨none, wipe_in h (by rw [E.len]; exact hl), True.intro⟩
    · rw [wipeE_out h] at hj
      rw [wipe_out h]
      exact E.slot j c hj
  · obtain ⟨n1, o1⟩ := ow_wipe h1
    obtain ⟨n2, o2⟩ := ow_wipe h2
    rw [wipe_out n1] at e1
    rw [wipe_out n2] at e2
    exact E.dis i j a o1 o2 e1 e2
theorem Ed.wiped {a : Addr} (h : Ed (wipe σ vs) (wipeE ρ vs) a) : Ed σ ρ a := by
  obtain ⟨j, h1, h2⟩ := h
  obtain ⟨n, o⟩ := ow_wipe h1
  rw [wipe_out n] at h2
  exact ⟨j, o, h2⟩
theorem free_no (f : freeE ρ vs = true) {j : Nat} (h : Ow ρ j) : j ∉ vs := fun z => by
  have q := List.all_eq_true.mp f j z
  obtain ⟨o, h | h⟩ := h <;> (rw [h] at q; cases q)
theorem Ed.wipe (f : freeE ρ vs = true) {a : Addr} (h : Ed σ ρ a) : Ed (wipe σ vs) (wipeE ρ vs) a := by
  obtain ⟨j, h1, h2⟩ := h
  have n := free_no f h1
  refine ⟨j, ?_, by rw [wipe_out n]; exact h2⟩
  unfold Ow
  rw [wipeE_out n]
  exact h1
theorem Stp.wiped (S : Stp (wipe σ0 vs) (wipeE ρ0 vs) O0 H0 σ ρ O H) : Stp (L2.wipe σ0 vs) (wipeE ρ0 vs) O0 H0 (L2.wipe σ vs) (wipeE ρ vs) O H := by
  refine ⟨S.keep, S.there, S.sub, S.stay, fun a h => S.env a h.wiped, fun j o hj => ?_⟩
  have n := (ow_wipe ⟨o, .inr hj⟩).1
  obtain ⟨⟨o', z1⟩, z2⟩ := S.bst j o hj
  exact ⟨⟨o', by rw [wipeE_out n]; exact z1⟩, by rw [wipe_out n]; exact z2⟩
theorem Stp.wipedTo (S : Stp (L2.wipe σ0 vs) (wipeE ρ0 vs) O0 H0 σ ρ O H) (e : L2.wipe σ vs = L2.wipe σ0 vs) : Stp (L2.wipe σ vs) (wipeE ρ0 vs) O0 H0 (L2.wipe σ vs) (wipeE ρ vs) O H := by
  have q := S.wiped
  rw [← e] at q
  exact q
/-- an own object that no slot holds is stored -/
theorem EnvOk.poke {u : HO} (E : EnvOk K H O σ ρ) (od : O D) (ne : ¬ Ed σ ρ D) : EnvOk K (upd H D u) O σ ρ := by
  have m : Mv H O (upd H D u) O := ⟨fun b o h n => by rw [upd_ne (fun e : b = D => n (by rw [e]; exact od))]; exact h, fun _ h => .inl h⟩
  refine ⟨E.len, fun j c hj => ?_, E.dis, fun a h => ?_⟩
  · obtain ⟨s, es, q⟩ := E.slot j c hj
    refine ⟨s, es, q.mono m fun a ea oa ho => ⟨oa, upd_ne fun e => ne ?_⟩⟩
    obtain ⟨o, ho⟩ := ho
    exact ⟨j, ⟨o, by rcases ho with rfl | rfl; exact .inl hj; exact .inr hj⟩, by rw [es, ea, e]⟩
  · by_cases e : a = D
    · rw [e, upd_same]; exact nofun
    · rw [upd_ne e]; exact E.tr a h
theorem poke_mv {u : HO} (od : O D) : Mv H O (upd H D u) O := ⟨fun b o h n => by rw [upd_ne (fun e : b = D => n (by rw [e]; exact od))]; exact h, fun _ h => .inl h⟩
theorem Stp.poke {u : HO} (S : Stp σ0 ρ0 O0 H0 σ ρ O H) (hn : H0 D = none) : Stp σ0 ρ0 O0 H0 σ ρ O (upd H D u) :=
  ⟨fun a o h n => by rw [upd_ne (ne_of_none h hn)]; exact S.keep a o h n, fun a h => by
    by_cases e : a = D
    · rw [e, upd_same]; exact nofun
    · rw [upd_ne e]; exact S.there a h, S.sub, S.stay, S.env, S.bst⟩
/-- behind the block -/
theorem unwipe_get {j : Nat} {c : DV} (h : (unwipe ρ0 ρ vs)[j]? = some c) (hl : ρ0.length = ρ.length) : (j ∈ vs ∧ ρ0[j]? = some c) ∨ (j ∉ vs ∧ ρ[j]? = some c) := by
  unfold unwipe at h
  rw [List.getElem?_mapIdx] at h
  obtain ⟨c0, e1, e2⟩ := Option.map_eq_some_iff.mp h
  by_cases hj : j ∈ vs
  · rw [if_pos hj] at e2
    have hlt : j < ρ0.length := by
      rw [hl]
      exact (List.getElem?_eq_some_iff.mp e1).1
    rw [List.getElem?_eq_getElem hlt] at e2 ⊢
    exact .inl ⟨hj, by rw [← e2]; rfl⟩
  · rw [if_neg hj] at e2
    exact .inr ⟨hj, by rw [e1, e2]⟩
theorem unwiped (f : freeE ρ0 vs = true) (E0 : EnvOk K H0 O0 σ ρ0) (E : EnvOk K H O (L2.wipe σ vs) ρ) (S : Stp (L2.wipe σ vs) (wipeE ρ0 vs) O0 H0 (L2.wipe σ vs) ρ O H) :
    EnvOk K H O σ (unwipe ρ0 ρ vs) ∧ Stp σ ρ0 O0 H0 σ (unwipe ρ0 ρ vs) O H ∧ ∀ a, Ed σ (unwipe ρ0 ρ vs) a → Ed (L2.wipe σ vs) ρ a := by
  have hl : ρ0.length = ρ.length := by
    rw [← E0.len, ← E.len, wipe_length]
  have mv : Mv H0 O0 H O := S.mv E0.wiped
  have ow : ∀ {j : Nat}, Ow (unwipe ρ0 ρ vs) j → j ∉ vs ∧ Ow ρ j := fun {j} ⟨o, h⟩ => by
    have key : ∀ c, (unwipe ρ0 ρ vs)[j]? = some c → (c = .own o ∨ c = .brw o) → j ∉ vs ∧ Ow ρ j := fun c hc hh => by
      rcases unwipe_get hc hl with ⟨h1, h2⟩ | ⟨h1, h2⟩
      · exact absurd h1 (free_no f ⟨o, by rcases hh with rfl | rfl; exact .inl h2; exact .inr h2⟩)
      · exact ⟨h1, o, by rcases hh with rfl | rfl; exact .inl h2; exact .inr h2⟩
    rcases h with h | h
    · exact key _ h (.inl rfl)
    · exact key _ h (.inr rfl)
  have ed : ∀ a, Ed σ (unwipe ρ0 ρ vs) a → Ed (L2.wipe σ vs) ρ a := fun a ⟨j, h1, h2⟩ => by
    obtain ⟨n, o⟩ := ow h1
    exact ⟨j, o, by rw [wipe_out n]; exact h2⟩
  refine ⟨⟨?_, fun j c hj => ?_, fun i j a h1 h2 e1 e2 => ?_, E.tr⟩, ⟨fun a o h n => S.keep a o h fun z => n z.wiped, S.there, S.sub, fun a h n => S.stay a h fun z => n z.wiped, fun a h => (S.env a (ed a h)).imp Ed.wiped id, fun j o hj => ?_⟩, ed⟩
  · unfold unwipe
    rw [List.length_mapIdx, E0.len, hl]
  · rcases unwipe_get hj hl with ⟨h1, h2⟩ | ⟨h1, h2⟩
    · obtain ⟨s, es, q⟩ := E0.slot j c h2
      refine ⟨s, es, q.mono mv fun a _ _ ho => ?_⟩
      obtain ⟨o, ho⟩ := ho
      exact absurd h1 (free_no f ⟨o, by rcases ho with rfl | rfl; exact .inl h2; exact .inr h2⟩)
    · have q := E.slot j c h2
      rw [wipe_out h1] at q
      exact q
  · obtain ⟨n1, o1⟩ := ow h1
    obtain ⟨n2, o2⟩ := ow h2
    exact E.dis i j a o1 o2 (by rw [wipe_out n1]; exact e1) (by rw [wipe_out n2]; exact e2)
  · have n := free_no f ⟨o, .inr hj⟩
    obtain ⟨⟨o', z1⟩, z2⟩ := S.bst j o (by rw [wipeE_out n]; exact hj)
    refine ⟨⟨o', ?_⟩, rfl⟩
    unfold unwipe
    rw [List.getElem?_mapIdx, z1]
    show some (if j ∈ vs then _ else _) = _
    rw [if_neg n]
end
section
variable {X : Cx} {elt tg iter : Expr} {ifs : List Expr} {scope : Scope} {own : List (Str × Nat)} {pos : Pos} {mi : MDs} {g : MG} {t : MT} {m : MD}
theorem tLc_of {K : PySem.W.Frag} {F : Hp → (Addr → Prop) → V → D → Prop} {vs : List Nat} : ∀ σ H Q, tE K (mLc mi g t m vs) σ H Q → tLc (tIF K F mi) (tGF K F vs g) (tT K t) (tD1 K m) vs σ H Q := by
  intro σ H Q ⟨ρ, O, r, ρ', E, e1, k⟩
  obtain ⟨⟨items, ρ1⟩, e2, e3⟩ := Option.bind_eq_some_iff.mp e1
  dsimp only at e3
  split at e3
  case isFalse => cases e3
  rename_i hf
  obtain ⟨⟨accF, ρF⟩, e4, e5⟩ := Option.map_eq_some_iff.mp e3
  cases e5
  refine ⟨ρ, O, items, ρ1, E, e2, fun J P H1 O1 E1 S1 Sr P1 D hD => ?_⟩
  have R0 := ResOk.lst (K := K) (xs := []) (ds := []) E1.tr hD .nil
  refine ⟨fun i n Hc => n = items.length - i ∧ i ≤ items.length ∧ ∃ ρb Ob acc accV, EnvOk K Hc Ob (wipe σ vs) ρb ∧ Stp (wipe σ vs) (wipeE ρ1 vs) O1 H1 (wipe σ vs) ρb Ob Hc ∧ Hc D = some (.lst accV) ∧ FzAll K Hc Ob accV acc ∧ Ob D ∧ ¬ Ed (wipe σ vs) ρb D ∧
      mLcGo g t m vs (items.drop i) acc ρb = some (accF, ρF) ∧ P Hc Ob,
    ⟨items.length, rfl, Nat.zero_le _, wipeE ρ1 vs, _, [], [], E1.wiped.grow R0.keep R0.sub R0.more R0.tr, .grow R0.keep R0.sub R0.more, upd_same, .nil, .inr rfl, fun z => E1.tr D (E1.ed z.wiped) hD, e4, Sr.mv _ _ _ _ P1 ⟨fun a o h _ => R0.keep a o h, R0.sub⟩⟩, ?_⟩
  rintro i n Hc ⟨rfl, hil, ρb, Ob, acc, accV, Eb, Sb, hDc, Fa, oD, nD, lg, Pc⟩
  by_cases hlt : i < items.length
  · refine .inr ⟨Sr.go i Hc Ob Pc hlt, fun H' => ∃ ρb Ob acc accV, EnvOk K H' Ob (wipe σ vs) ρb ∧ Stp (wipe σ vs) (wipeE ρ1 vs) O1 H1 (wipe σ vs) ρb Ob H' ∧ H' D = some (.lst accV) ∧ FzAll K H' Ob accV acc ∧ Ob D ∧ ¬ Ed (wipe σ vs) ρb D ∧
        mLcGo g t m vs (items.drop (i + 1)) acc ρb = some (accF, ρF) ∧ P H' Ob, fun H' q => ⟨_, by omega, rfl, hlt, q⟩, fun x Hy y => ?_⟩
    obtain ⟨keep, d, hd, fx⟩ := Sr.yld i Hc Ob x Hy Pc Eb.tr hlt y
    obtain ⟨Ey, Sy⟩ := Eb.yield keep
    have Py : P Hy Ob := Sr.mv _ _ _ _ Pc (Sy.mv Eb)
    have hcons : items.drop i = d :: items.drop (i + 1) := by
      rw [List.drop_eq_getElem_cons hlt]
      have : items[i] = d := by
        rw [List.getElem?_eq_getElem hlt] at hd
        exact Option.some.inj hd
      rw [this]
    rw [hcons] at lg
    obtain ⟨ρ2, g1, lg⟩ := Option.bind_eq_some_iff.mp (show (g d ρb).bind _ = _ from lg)
    obtain ⟨⟨b, ρ3⟩, t1, lg⟩ := Option.bind_eq_some_iff.mp lg
    refine ⟨ρb, Ob, d, ρ2, Ey, fx, g1, fun σ2 H2 O2 E2 S2 W2 => ⟨(wipe_eq W2.2 W2.1).trans wipe_wipe, ?_⟩⟩
    have ws : wipe σ2 vs = wipe σ vs := (wipe_eq W2.2 W2.1).trans wipe_wipe
    have P2 : P H2 O2 := Sr.mv _ _ _ _ Py (S2.mv Ey)
    refine ⟨ρ2, O2, b, ρ3, E2, t1, fun H3 O3 E3 S3 => ?_⟩
    have P3 : P H3 O3 := Sr.mv _ _ _ _ P2 (S3.mv E2)
    have Syb := Stp.trans Eb.tr Sy (Stp.trans Ey.tr S2 S3)
    have Fa3 := FzAll.mv (Syb.mv Eb) _ _ Fa
    have hD3 : H3 D = some (.lst accV) := Syb.keep D _ hDc nD
    have oD3 : O3 D := Syb.stay D oD nD
    have nD3 : ¬ Ed σ2 ρ3 D := fun z => (Syb.env D z).elim nD fun z => by rw [hDc] at z; cases z
    have Sb3 := Stp.trans E1.tr Sb Syb
    cases b with
    | false =>
      have lg : mLcGo g t m vs (items.drop (i + 1)) acc (wipeE ρ3 vs) = some (accF, ρF) := lg
      refine iteF ⟨wipeE ρ3 vs, O3, acc, accV, ?_, ?_, hD3, Fa3, oD3, ?_, lg, P3⟩
      · rw [← ws]; exact E3.wiped
      · rw [← ws]; exact Sb3.wipedTo ws
      · rw [← ws]; exact fun z => nD3 z.wiped
    | true =>
      obtain ⟨⟨dy, ρ4⟩, m1, lg⟩ := Option.bind_eq_some_iff.mp lg
      dsimp only at lg
      split at lg
      case isFalse => cases lg
      rename_i hz
      refine iteT ⟨ρ3, O3, dy, ρ4, E3, m1, fun yv H4 O4 E4 S4 F4 => ?_⟩
      have hD4 : H4 D = some (.lst accV) := S4.keep D _ hD3 nD3
      have oD4 : O4 D := S4.stay D oD3 nD3
      have nD4 : ¬ Ed σ2 ρ4 D := fun z => (S4.env D z).elim nD3 fun z => by rw [hD3] at z; cases z
      have Fa4 := FzAll.mv (S4.mv E3) _ _ Fa3
      have Sb4 := Stp.trans E1.tr Sb3 S4
      refine ⟨accV, hD4, by rw [Fa.length]; exact hz, wipeE ρ4 vs, O4, acc ++ [dy], accV ++ [yv], ?_, ?_, upd_same, ?_, oD4, ?_, lg, ?_⟩
      · rw [← ws]; exact (E4.poke oD4 nD4).wiped
      · rw [← ws]; exact (Sb4.poke hD).wipedTo ws
      · exact FzAll.mv (poke_mv oD4) _ _ (Fa4.append (.cons F4 .nil))
      · rw [← ws]; exact fun z => nD4 z.wiped
      · exact Sr.mv _ _ _ _ (Sr.mv _ _ _ _ P3 (S4.mv E3)) (poke_mv oD4)
  · have hi : i = items.length := by omega
    subst hi
    refine .inl ⟨Sr.stop _ Hc Ob Pc (Nat.le_refl _), ?_⟩
    rw [List.drop_length] at lg
    cases lg
    obtain ⟨EU, SU, ed⟩ := unwiped hf E1 Eb Sb
    exact k (.ref D) Hc Ob EU (Stp.trans E.tr S1 SU) ⟨D, rfl, oD, fun z => nD (ed D z), Classical.byContradiction fun q => S1.there D q hD, accV, hDc, Fa⟩
theorem p_lc {F : Hp → (Addr → Prop) → V → D → Prop} (hN : X.N.Nodup) (hi : PI X tg iter (tIF X.K F mi)) (ok : BlkOk X.N X.env.scope scope own) {tt : MT}
    (hg : ∀ (s : Shared) (H : Hp) (C : Addr) (cl : List (Str × Addr)) (fp : List Addr), PG (X.blk s H scope (compEnvC scope cl C X.env) fp) tg (tGF X.K F (own.map (·.2)) g))
    (ht : ∀ (s : Shared) (H : Hp) (C : Addr) (cl : List (Str × Addr)) (fp : List Addr), PTs (X.blk s H scope (compEnvC scope cl C X.env) fp) ifs (tT X.K tt))
    (he : ∀ (s : Shared) (H : Hp) (C : Addr) (cl : List (Str × Addr)) (fp : List Addr), PE (X.blk s H scope (compEnvC scope cl C X.env) fp) elt (tD1 X.K m)) (hc : X.calm = true := by rfl) (hs : ∀ x, foldedSetIterable iter X.env x = pure x := by intro _; rfl) :
    PE X (.ListComp elt [⟨tg, iter, ifs, 0⟩] scope pos) (tE X.K (mLc mi g tt m (own.map (·.2)))) := PE.of (pe_lc hc hN hi ok hg ht he hs) tLc_of
/-- name = [..] on one row -/
theorem s_setLc {F : Hp → (Addr → Prop) → V → D → Prop} {i : Nat} {y : Str} {py spos : Pos} (hN : X.N.Nodup) (hi : PI X tg iter (tIF X.K F mi)) (ok : BlkOk X.N X.env.scope scope own) {tt : MT}
    (hg : ∀ (s : Shared) (H : Hp) (C : Addr) (cl : List (Str × Addr)) (fp : List Addr), PG (X.blk s H scope (compEnvC scope cl C X.env) fp) tg (tGF X.K F (own.map (·.2)) g))
    (ht : ∀ (s : Shared) (H : Hp) (C : Addr) (cl : List (Str × Addr)) (fp : List Addr), PTs (X.blk s H scope (compEnvC scope cl C X.env) fp) ifs (tT X.K tt))
    (he : ∀ (s : Shared) (H : Hp) (C : Addr) (cl : List (Str × Addr)) (fp : List Addr), PE (X.blk s H scope (compEnvC scope cl C X.env) fp) elt (tD1 X.K m))
    (hy : X.N[i]? = some y := by rfl) (hyl : X.env.scope.names.lookup y = some .local := by rfl) (hsw : swapsWith (.ListComp elt [⟨tg, iter, ifs, 0⟩] scope pos) (some (.Name y py)) spos.line X.env = pure true := by exact sw_true rfl rfl rfl (by decide +kernel))
    (hc : X.calm = true := by rfl) (hs : ∀ x, foldedSetIterable iter X.env x = pure x := by intro _; rfl) :
    PS X (.Assign [.Name y py] (.ListComp elt [⟨tg, iter, ifs, 0⟩] scope pos) spos) (tS X.K (mSet i (mLc mi g tt m (own.map (·.2))))) :=
  PS.of (ps_setLc hc hN hy hyl hsw hi ok hg ht he hs) fun σ H D h => tLc_of σ H _ (tSet_of σ H D h)
def mYes : MT := fun ρ => some (true, ρ)
theorem c_nil : PTs X [] (tT X.K mYes) := ⟨fun pins s σ H Q I ⟨ρ, O, b, ρ', E, e1, k⟩ => by
  cases e1
  exact pts_nil.run pins s σ H Q I (k H O E .refl)⟩
theorem c_one {c : Expr} {tt : MT} (h : PT X c (tT X.K tt)) : PTs X [c] (tT X.K tt) := pts_one h
end
end PL

/-! PL9: built-in functions. -/
namespace PL
open PySem PySem.Spec PyProof.Rows L2
variable [TheW]

def looks (ρ : Ev) : List RV → Option (List D)
  | [] => some []
  | r :: rs => (look ρ r).bind fun d => (looks ρ rs).map (d :: ·)
def mCallN (g : List D → Option RV) (ms : MA) : ME := fun ρ => (ms ρ).bind fun p => (looks p.2 p.1).bind fun ds => (g ds).map fun z => (z, p.2)
section
variable {K : PySem.W.Frag} {H H0 : Hp} {O : Addr → Prop} {σ : L2.St} {ρ : Ev} {xs : List V} {rs : List RV} {ds : List D}
theorem looks_ok (E : EnvOk K H O σ ρ) (R : Paired (fun x r => RvOk K H0 H O σ ρ x r) xs rs) : ∀ {ds : List D}, looks ρ rs = some ds → LkAll K H O xs ds := by
  induction R with
  | nil => intro ds h; cases h; exact .nil
  | cons h t ih =>
    intro ds e
    obtain ⟨d, e1, e2⟩ := Option.bind_eq_some_iff.mp e
    obtain ⟨ds', e3, rfl⟩ := Option.map_eq_some_iff.mp e2
    exact .cons (look_ok E h e1) (ih e3)
theorem lk1 {d : D} (h : LkAll K H O xs [d]) : ∃ x, xs = [x] ∧ Lk K H O x d := by
  cases h with
  | cons h t =>
    cases t
    exact ⟨_, rfl, h⟩
theorem lk2 {d e : D} (h : LkAll K H O xs [d, e]) : ∃ x y, xs = [x, y] ∧ Lk K H O x d ∧ Lk K H O y e := by
  cases h with
  | cons h t =>
    cases t with
    | cons h2 t =>
      cases t
      exact ⟨_, _, rfl, h, h2⟩
end
section
variable {X : Cx} {e : Expr} {es : List Expr} {ms : MA} {x : Str} {p pos : Pos} {id T : String} {r : List V → Hp → VK → Prop} {g : List D → Option RV}
theorem tCB_of (hg : OpN X.K r g) : ∀ σ H Q, tE X.K (mCallN g ms) σ H Q → tCB r (tA X.K ms) σ H Q := by
  intro σ H Q ⟨ρ, O, z, ρ', E, e1, k⟩
  obtain ⟨⟨rs, ρ1⟩, e2, e3⟩ := Option.bind_eq_some_iff.mp e1
  obtain ⟨ds, e4, e5⟩ := Option.bind_eq_some_iff.mp e3
  obtain ⟨z', e6, e7⟩ := Option.map_eq_some_iff.mp e5
  cases e7
  refine ⟨ρ, O, rs, _, E, e2, fun xs H1 O1 E1 S1 R1 => hg H1 O1 xs ds z Q E1.tr (looks_ok E1 R1.all e4) e6 fun v H2 O2 R2 => ?_⟩
  obtain ⟨E2, S2, V2⟩ := R2.done E1
  exact k v H2 O2 E2 (Stp.trans E.tr S1 S2) (V2.back S1.there)
theorem p_callB (hc : CallR X (.builtin id) r) (hg : OpN X.K r g) (hm : X.mg x = none) (hv : bootBuiltins x = some (.builtin id)) (ha : PA X (e :: es) (tA X.K ms)) (hgl : Gl X x := by rfl) (hn : x ≠ "__name__" := by decide) (hdb : (x == ("__debug__" : Str)) = false := by decide)
    (he : starEach (e :: es) X.env = (false, eval e X.env) :: starEach es X.env := by rfl) (hpl : (backTo pos (starEach es X.env)).any (·.1) = false := by rfl) : PE X (.Call (.Name x p) (e :: es) [] pos) (tE X.K (mCallN g ms)) :=
  PE.of (pe_callB hc hgl hm hv ha hn hdb he hpl) (tCB_of hg)
theorem p_callTy (hc : CallR X (.type T) r) (hg : OpN X.K r g) (hm : X.mg x = none) (hv : bootBuiltins x = some (.type T)) (ha : PA X (e :: es) (tA X.K ms)) (hgl : Gl X x := by rfl) (hn : x ≠ "__name__" := by decide) (hdb : (x == ("__debug__" : Str)) = false := by decide)
    (he : starEach (e :: es) X.env = (false, eval e X.env) :: starEach es X.env := by rfl) (hpl : (backTo pos (starEach es X.env)).any (·.1) = false := by rfl) : PE X (.Call (.Name x p) (e :: es) [] pos) (tE X.K (mCallN g ms)) :=
  PE.of (pe_callTy hc hgl hm hv ha hn hdb he hpl) (tCB_of hg)
end

/-! ### len sum max min int tuple list all any -/
section
variable {K : PySem.W.Frag}
def gLen : List D → Option RV
  | [.str z] => if z.length ≤ sizeLine then some (.d (.int z.length)) else none
  | [.list ds] => some (.d (.int ds.length))
  | [.tuple ds] => some (.d (.int ds.length))
  | _ => none
theorem on_len : OpN K (fun xs H Q => ∃ x n, xs = [x] ∧ LenV K x H n ∧ Q (.int n) H) gLen := by
  intro H O xs ds z Q tr h e k
  unfold gLen at e
  split at e
  · split at e
    · rename_i hz
      cases e
      obtain ⟨x, rfl, h1⟩ := lk1 h
      cases lk_str h1
      exact ⟨_, _, rfl, ⟨hz, rfl⟩, k _ _ _ (.same tr (.int _))⟩
    · cases e
  · cases e
    obtain ⟨x, rfl, h1⟩ := lk1 h
    obtain ⟨a, vs, rfl, h2, h3⟩ := lk_list h1
    exact ⟨_, _, rfl, .inl ⟨vs, h2, h3.length.symm⟩, k _ _ _ (.same tr (.int _))⟩
  · cases e
    obtain ⟨x, rfl, h1⟩ := lk1 h
    obtain ⟨a, vs, rfl, h2, h3, _⟩ := lk_tup h1
    exact ⟨_, _, rfl, .inr ⟨vs, h2, h3.length.symm⟩, k _ _ _ (.same tr (.int _))⟩
  · cases e
def gSum : List D → Option RV
  | [.list ds] => (intsOf ds).map fun ns => .d (.int ns.sum)
  | _ => none
theorem on_sum : OpN K (rSum K) gSum := by
  intro H O xs ds z Q tr h e k
  unfold gSum at e
  split at e
  · obtain ⟨ns, e1, rfl⟩ := Option.map_eq_some_iff.mp e
    obtain ⟨x, rfl, h1⟩ := lk1 h
    obtain ⟨a, vs, rfl, h2, h3⟩ := lk_list h1
    rw [intsOf_eq e1] at h3
    rw [fz_ints h3] at h2
    exact ⟨a, ns, rfl, h2, k _ _ _ (.same tr (.int _))⟩
  · cases e
def gMax2 : List D → Option RV
  | [.int i, .int j] => some (.d (.int (if j > i then j else i)))
  | _ => none
def gMin2 : List D → Option RV
  | [.int i, .int j] => some (.d (.int (if j < i then j else i)))
  | _ => none
theorem on_max2 : OpN K (fun xs H Q => ∃ i j, xs = [.int i, .int j] ∧ Q (.int (if j > i then j else i)) H) gMax2 := by
  intro H O xs ds z Q tr h e k
  unfold gMax2 at e
  split at e
  · cases e
    obtain ⟨x, y, rfl, h1, h2⟩ := lk2 h
    cases lk_int h1; cases lk_int h2
    exact ⟨_, _, rfl, k _ _ _ (.same tr (.int _))⟩
  · cases e
theorem on_min2 : OpN K (fun xs H Q => ∃ i j, xs = [.int i, .int j] ∧ Q (.int (if j < i then j else i)) H) gMin2 := by
  intro H O xs ds z Q tr h e k
  unfold gMin2 at e
  split at e
  · cases e
    obtain ⟨x, y, rfl, h1, h2⟩ := lk2 h
    cases lk_int h1; cases lk_int h2
    exact ⟨_, _, rfl, k _ _ _ (.same tr (.int _))⟩
  · cases e
def gInt : List D → Option RV
  | [.int i] => some (.d (.int i))
  | [.bool b] => some (.d (.int (if b then 1 else 0)))
  | _ => none
theorem on_int : OpN K (fun xs H Q => (∃ i, xs = [.int i] ∧ Q (.int i) H) ∨ ∃ k, xs = [.bl k] ∧ Q (.int (if k then 1 else 0)) H) gInt := by
  intro H O xs ds z Q tr h e k
  unfold gInt at e
  split at e
  · cases e
    obtain ⟨x, rfl, h1⟩ := lk1 h
    cases lk_int h1
    exact .inl ⟨_, rfl, k _ _ _ (.same tr (.int _))⟩
  · cases e
    obtain ⟨x, rfl, h1⟩ := lk1 h
    cases lk_bl h1
    exact .inr ⟨_, rfl, k _ _ _ (.same tr (.int _))⟩
  · cases e
def gTuple : List D → Option RV
  | [.list ds] => some (.d (.tuple ds))
  | [.tuple ds] => some (.d (.tuple ds))
  | _ => none
theorem on_tuple : OpN K (rTupleF K) gTuple := by
  intro H O xs ds z Q tr h e k
  unfold gTuple at e
  split at e
  · cases e
    obtain ⟨x, rfl, h1⟩ := lk1 h
    obtain ⟨a, vs, rfl, h2, h3⟩ := lk_list h1
    exact ⟨a, vs, rfl, .inl ⟨h2, fun l o n od => k _ _ _ (.tup tr n od h3)⟩⟩
  · cases e
    obtain ⟨x, rfl, h1⟩ := lk1 h
    obtain ⟨a, vs, rfl, h2, h3, f⟩ := lk_tup h1
    exact ⟨a, vs, rfl, .inr ⟨h2, k _ _ _ (.same tr f)⟩⟩
  · cases e
def gList : List D → Option RV
  | [.list ds] => some (.nl (.L ds))
  | [.tuple ds] => some (.nl (.L ds))
  | _ => none
theorem on_list : OpN K (fun xs H Q => ∃ p ys, xs = [.ref p] ∧ (SqL K H p ys ∨ SqT K H p ys) ∧ ∀ l, H l = none → Q (.ref l) (upd H l (.lst ys))) gList := by
  intro H O xs ds z Q tr h e k
  unfold gList at e
  split at e
  · cases e
    obtain ⟨x, rfl, h1⟩ := lk1 h
    obtain ⟨a, vs, rfl, h2, h3⟩ := lk_list h1
    exact ⟨a, vs, rfl, .inl h2, fun l n => k _ _ _ (.lst tr n h3)⟩
  · cases e
    obtain ⟨x, rfl, h1⟩ := lk1 h
    obtain ⟨a, vs, rfl, h2, h3, f⟩ := lk_tup h1
    exact ⟨a, vs, rfl, .inr h2, fun l n => k _ _ _ (.lst tr n h3)⟩
  · cases e
def gAll : List D → Option RV
  | [.list ds] => (blsOf ds).map fun bs => .d (.bool (bs.all id))
  | _ => none
theorem on_all : OpN K (rAll K) gAll := by
  intro H O xs ds z Q tr h e k
  unfold gAll at e
  split at e
  · obtain ⟨ns, e1, rfl⟩ := Option.map_eq_some_iff.mp e
    obtain ⟨x, rfl, h1⟩ := lk1 h
    obtain ⟨a, vs, rfl, h2, h3⟩ := lk_list h1
    rw [blsOf_eq e1] at h3
    rw [fz_bls h3] at h2
    exact ⟨a, ns, rfl, h2, k _ _ _ (.same tr (.bl _))⟩
  · cases e
end
/-! ### sorted -/
/-- the order of texts -/
def strLe (a b : Str) : Bool := !ltCps b.cps.toList a.cps.toList
def sortS (ss : List Str) : List Str := ss.mergeSort strLe
def sortI (ns : List Int) : List Int := ns.mergeSort fun a b => decide (a ≤ b)
theorem strLe_iff {a b : Str} : strLe a b = true ↔ a.cps.toList ≤ b.cps.toList := by
  unfold strLe
  rw [ltCps_eq]
  show (!decide (b.cps.toList < a.cps.toList)) = true ↔ ¬ b.cps.toList < a.cps.toList
  simp
theorem strLe_trans (a b c : Str) (h1 : strLe a b = true) (h2 : strLe b c = true) : strLe a c = true := by
  rw [strLe_iff] at *
  exact List.le_trans h1 h2
theorem strLe_total (a b : Str) : (strLe a b || strLe b a) = true := by
  rw [Bool.or_eq_true, strLe_iff, strLe_iff]
  exact List.le_total _ _
theorem strLe_anti {a b : Str} (h1 : strLe a b = true) (h2 : strLe b a = true) : a = b := by
  rw [strLe_iff] at h1 h2
  have h := List.le_antisymm h1 h2
  obtain ⟨⟨l⟩⟩ := a
  obtain ⟨⟨m⟩⟩ := b
  dsimp only at h
  rw [h]
theorem pair_of_risingS : ∀ (l : List Str) (p : Str), risingS p l = true → (p :: l).Pairwise (fun a b => strLe a b = true)
  | [], p, _ => List.pairwise_singleton _ _
  | x :: r, p, h => by
    have h' : (!ltCps x.cps.toList p.cps.toList && risingS x r) = true := h
    rw [Bool.and_eq_true] at h'
    have ih := pair_of_risingS r x h'.2
    refine List.pairwise_cons.mpr ⟨fun y hy => ?_, ih⟩
    rcases List.mem_cons.mp hy with rfl | hy
    · exact h'.1
    · exact strLe_trans p x y h'.1 ((List.pairwise_cons.mp ih).1 y hy)
theorem sortS_eq {ys ss : List Str} (hp : ys.Perm ss) (hs : sortedS ys = true) : ys = sortS ss := by
  have h1 : ys.Pairwise (fun a b => strLe a b = true) := by
    cases ys with
    | nil => exact List.Pairwise.nil
    | cons p l => exact pair_of_risingS l p hs
  exact List.Perm.eq_of_pairwise (fun a b _ _ h h' => strLe_anti h h') h1 (List.pairwise_mergeSort strLe_trans strLe_total ss) (hp.trans (List.mergeSort_perm ss strLe).symm)
theorem sortI_eq {ys ss : List Int} (hp : ys.Perm ss) (hs : ys.Pairwise (· ≤ ·)) : ys = sortI ss := by
  refine List.Perm.eq_of_pairwise (le := fun a b : Int => decide (a ≤ b) = true) (fun a b _ _ h h' => Int.le_antisymm (of_decide_eq_true h) (of_decide_eq_true h')) (hs.imp fun h => decide_eq_true h) (List.pairwise_mergeSort (fun a b c h1 h2 => ?_) (fun a b => ?_) ss) (hp.trans (List.mergeSort_perm ss _).symm)
  · simp only [decide_eq_true_eq] at *
    omega
  · simp only [Bool.or_eq_true, decide_eq_true_eq]
    omega
/-- sorted(x), x a list or a tuple of texts -/
def rSortQ (K : PySem.W.Frag) : List V → Hp → VK → Prop := fun vs H Q => ∃ (a : Addr) (xs : List Str), vs = [V.ref a] ∧ (SqL K H a (xs.map V.str) ∨ SqT K H a (xs.map V.str)) ∧ xs.length < 64 ∧ ∀ p, H p = none → Q (.ref p) (upd H p (.lst ((sortS xs).map V.str)))
theorem call_sortQ {X : Cx} : CallR X (.builtin "sorted") (rSortQ X.K) := by
  rintro pins s σ H vs us Q I r ⟨a, xs, rfl, hs, h64, q⟩
  have main : ∀ (its : List Value) (T : String) (o : Obj) (n : Nat), Vals (xs.map V.str) its → (T = "list" ∨ T = "tuple") → s.heap.get? a = some o → o.cls = .type T → o.data = .seq its.toArray n → wpAny (model X.prog X.w) X.A (call (.builtin "sorted") [.ref a]) (EP X pins σ Q) X.xe s := by
    intro its T o n rv hT ho hc hd
    have hl : its.length = xs.length := by
      have := rv.length
      rw [List.length_map] at this
      exact this.symm
    refine Calls.call_function_entry PyProof.Rows.kind_sorted PyProof.Rows.plain_sorted PyProof.Rows.entry_sorted (PyProof.Rows.args_sorted1 _) ?_
    unfold Builtin.«sorted»
    refine wpAny_bind (m := checkCount "sorted" 1 1 _) (wpAny_pure (wpAny_bind (wpAny_collect_seq a hT ho hc hd (fun h' kp => ?_) (by rw [List.size_toArray, hl, sizeLine_eq]; omega))))
    have e0 : its.toArray.toList = its := by simp
    rw [e0]
    refine wpAny_bind (wpAny_newList ?_ (by rw [hl, sizeLine_eq]; omega))
    have I1 : Inv X pins σ H { s with heap := h' } := I.kept (t' := s.toks) kp
    have at1 : (h'.push (seqObj "list" its.toArray 0)).get? h'.objs.size = some (seqObj "list" its.toArray 0) := Heap.get?_push_size _ rfl
    have hS := rv.strs
    show wpAny _ _ _ _ _ { s with heap := h'.push (seqObj "list" its.toArray 0) }
    refine wpAny_bind (wpAny_holding (wpAny_call_entry PyProof.Rows.slot_list_sort ⟨_, at1, rfl⟩ PyProof.Rows.entry_list_sort
      (list_sort_treeK strKind_oneLt (s := { s with heap := h'.push (seqObj "list" its.toArray 0) }) at1 hS.keysOf (fun v₁ v₂ rest e => keyKind_strs (by rw [← e]; exact hS)) (by rw [hl]; exact h64) fun st' hp hs' => ⟨_, rfl, ?_⟩) (PyProof.Rows.args_list_sort _)))
    obtain ⟨ys, g1, g2, g3⟩ := sorted_out_str hS hp hs'
    obtain ⟨e', he'⟩ := PyProof.Rows.sortedHeap_at (vs := its) (out := (arrOf st').map (·.2)) at1
    have ey := sortS_eq g2 g3
    subst ey
    have hlen : ((sortS xs).map V.str).length ≤ sizeLine := by
      rw [List.length_map, g2.length_eq, sizeLine_eq]
      omega
    refine wpAny_pure ⟨_, rfl, .ref h'.objs.size, _, I1.laid (t' := s.toks) (fun b u e => ?_) (Nat.le_refl _) (show ObjOk X.prog X.w _ _ _ (.lst ((sortS xs).map V.str)) from ⟨hlen, ((arrOf st').map (·.2)).toList, e', vals_of_strs g1, by rw [Array.toArray_toList]; exact he'⟩), rfl, q _ (I1.hok.fresh (Nat.le_refl _))⟩
    have hb : b < h'.objs.size := Heap.lt_size e
    rw [PyProof.Rows.sortedHeap_old (Nat.ne_of_lt hb) (by rw [size_push']; exact Nat.lt_succ_of_lt hb)]
    exact Heap.get?_push_of_some _ e
  rw [Vals.ref1 r]
  rcases hs with hs | hs
  · obtain ⟨its, rv, pl, _⟩ := I.list hs
    obtain ⟨o, n, ho, hc, _, hd⟩ := pl
    exact main its "list" o n rv (.inl rfl) ho hc hd
  · obtain ⟨its, rv, pl, _⟩ := I.tuple hs
    obtain ⟨o, ho, hc, n, hd⟩ := pl
    exact main its "tuple" o n rv (.inr rfl) ho hc hd
def seqOf : D → Option (List D)
  | .list ds => some ds
  | .tuple ds => some ds
  | _ => none
def gSorted : List D → Option RV
  | [d] => (seqOf d).bind fun ds => match strsOf ds with
    | some ss => if ss.length < 64 then some (.nl (.L ((sortS ss).map .str))) else none
    | none => match d with
      | .list _ => (intsOf ds).map fun ns => .nl (.L ((sortI ns).map .int))
      | _ => none
  | _ => none
theorem on_sorted {K : PySem.W.Frag} : OpN K (cOr (rSortQ K) (rSortedI K)) gSorted := by
  intro H O xs ds z Q tr h e k
  unfold gSorted at e
  split at e
  · rename_i d
    obtain ⟨ds, e1, e2⟩ := Option.bind_eq_some_iff.mp e
    obtain ⟨x, rfl, h1⟩ := lk1 h
    have hq : ∃ a vs, x = .ref a ∧ (SqL K H a vs ∨ SqT K H a vs) ∧ FzAll K H O vs ds := by
      cases d with
      | list es =>
        cases e1
        obtain ⟨a, vs, ex, h2, h3⟩ := lk_list h1
        exact ⟨a, vs, ex, .inl h2, h3⟩
      | tuple es =>
        cases e1
        obtain ⟨a, vs, ex, h2, h3, _⟩ := lk_tup h1
        exact ⟨a, vs, ex, .inr h2, h3⟩
      | _ => cases e1
    split at e2
    · rename_i ss hss
      split at e2
      · rename_i h64
        cases e2
        obtain ⟨a, vs, rfl, h2, h3⟩ := hq
        rw [strsOf_eq hss] at h3
        rw [fz_strs h3] at h2
        exact .inl ⟨a, ss, rfl, h2, h64, fun p n => k _ _ _ (.lst tr n fzAll_strs)⟩
      · cases e2
    · split at e2
      · rename_i es
        obtain ⟨ns, e3, rfl⟩ := Option.map_eq_some_iff.mp e2
        cases e1
        obtain ⟨a, vs, rfl, h2, h3⟩ := lk_list h1
        rw [intsOf_eq e3] at h3
        rw [fz_ints h3] at h2
        refine .inr ⟨a, ns, rfl, h2, fun ns' p hp hs n => ?_⟩
        have := sortI_eq hp hs
        subst this
        exact k _ _ _ (.lst tr n fzAll_ints)
      · cases e2
  · cases e
end PL

/-! PL10: methods; stores into own lists. -/
namespace PL
open PySem PySem.Spec PyProof.Rows L2
variable [TheW]

/-! ### an own object is stored -/
def ocOf : Option DV → Option OC
  | some (.own o) => some o
  | some (.brw o) => some o
  | _ => none
def setOc (ρ : Ev) (i : Nat) (o : OC) : Ev := match ρ[i]? with
  | some (.own _) => ρ.set i (.own o)
  | some (.brw _) => ρ.set i (.brw o)
  | _ => ρ
section
variable {K : PySem.W.Frag} {H H' H0 : Hp} {O O' O0 : Addr → Prop} {σ : L2.St} {ρ : Ev} {i : Nat} {o o' : OC} {a : Addr}
theorem oc_at (E : EnvOk K H O σ ρ) (h : ocOf ρ[i]? = some o) : ∃ a, σ[i]? = some (some (.ref a)) ∧ O a ∧ OcAt K H O a o ∧ Ed σ ρ a := by
  unfold ocOf at h
  split at h
  · rename_i q hq
    cases h
    obtain ⟨s, es, a, e1, e2, e3⟩ := E.slot i _ hq
    subst e1
    exact ⟨a, es, e2, e3, i, ⟨_, .inl hq⟩, es⟩
  · rename_i q hq
    cases h
    obtain ⟨s, es, a, e1, e2, e3⟩ := E.slot i _ hq
    subst e1
    exact ⟨a, es, e2, e3, i, ⟨_, .inr hq⟩, es⟩
  · cases h
theorem setOc_get {j : Nat} {c : DV} (hi : ocOf ρ[i]? = some o) (h : (setOc ρ i o')[j]? = some c) : (j = i ∧ ((∃ q, ρ[i]? = some (.own q)) ∧ c = .own o' ∨ (∃ q, ρ[i]? = some (.brw q)) ∧ c = .brw o')) ∨ (j ≠ i ∧ ρ[j]? = some c) := by
  unfold setOc at h
  split at h
  · rename_i q hq
    rcases getElem?_set_of h with ⟨e, z⟩ | ⟨n, z⟩
    · exact .inl ⟨e, .inl ⟨⟨q, hq⟩, z⟩⟩
    · exact .inr ⟨n, z⟩
  · rename_i q hq
    rcases getElem?_set_of h with ⟨e, z⟩ | ⟨n, z⟩
    · exact .inl ⟨e, .inr ⟨⟨q, hq⟩, z⟩⟩
    · exact .inr ⟨n, z⟩
  · rename_i n1 n2
    exfalso
    unfold ocOf at hi
    split at hi
    · rename_i q hq; exact n1 q hq
    · rename_i q hq; exact n2 q hq
    · cases hi
theorem setOc_length : (setOc ρ i o).length = ρ.length := by
  unfold setOc
  split <;> simp
theorem ow_setOc {j : Nat} (hi : ocOf ρ[i]? = some o) (h : Ow (setOc ρ i o') j) : Ow ρ j := by
  obtain ⟨q, h⟩ := h
  have key : ∀ c, (setOc ρ i o')[j]? = some c → (c = .own q ∨ c = .brw q) → Ow ρ j := fun c hc hh => by
    rcases setOc_get hi hc with ⟨e, ⟨⟨r, z⟩, _⟩ | ⟨⟨r, z⟩, _⟩⟩ | ⟨n, z⟩
    · subst e; exact ⟨r, .inl z⟩
    · subst e; exact ⟨r, .inr z⟩
    · exact ⟨q, by rcases hh with rfl | rfl; exact .inl z; exact .inr z⟩
  rcases h with h | h
  · exact key _ h (.inl rfl)
  · exact key _ h (.inr rfl)
/-- the object of slot i is written -/
theorem EnvOk.wr {u : HO} (E : EnvOk K H O σ ρ) (hi : ocOf ρ[i]? = some o) (hs : σ[i]? = some (some (.ref a))) (ha : OcAt K (upd H a u) O a o') : EnvOk K (upd H a u) O σ (setOc ρ i o') ∧ Stp σ ρ O H σ (setOc ρ i o') O (upd H a u) := by
  obtain ⟨b, es, oa, fa, ed⟩ := oc_at E hi
  rw [hs] at es
  cases es
  have m : Mv H O (upd H a u) O := poke_mv oa
  have owi : Ow ρ i := by
    unfold ocOf at hi
    split at hi
    · rename_i q hq; exact ⟨q, .inl hq⟩
    · rename_i q hq; exact ⟨q, .inr hq⟩
    · cases hi
  have edd : ∀ b, Ed σ (setOc ρ i o') b → Ed σ ρ b := fun b ⟨j, h1, h2⟩ => ⟨j, ow_setOc hi h1, h2⟩
  refine ⟨⟨by rw [setOc_length]; exact E.len, fun j c hj => ?_, fun j k b h1 h2 e1 e2 => E.dis j k b (ow_setOc hi h1) (ow_setOc hi h2) e1 e2, fun b h => ?_⟩,
    ⟨fun b ob h n => ?_, fun b h => ?_, fun b h => .inl h, fun b h _ => h, fun b h => .inl (edd b h), fun j q hj => ⟨?_, rfl⟩⟩⟩
  · rcases setOc_get hi hj with ⟨e, ⟨_, z⟩ | ⟨_, z⟩⟩ | ⟨n, z⟩
    · subst e; subst z
      exact ⟨_, hs, a, rfl, oa, ha⟩
    · subst e; subst z
      exact ⟨_, hs, a, rfl, oa, ha⟩
    · obtain ⟨s, es, q⟩ := E.slot j c z
      refine ⟨s, es, q.mono m fun b eb ob hb => ⟨ob, upd_ne fun e => n ?_⟩⟩
      obtain ⟨q', hq⟩ := hb
      refine E.dis j i b ⟨q', ?_⟩ owi (by rw [es, eb]) (by rw [hs, e])
      rcases hq with rfl | rfl
      · exact .inl z
      · exact .inr z
  · by_cases e : b = a
    · rw [e, upd_same]; exact nofun
    · rw [upd_ne e]; exact E.tr b h
  · rw [upd_ne (fun e : b = a => n (by rw [e]; exact ed))]
    exact h
  · by_cases e : b = a
    · rw [e, upd_same]; exact nofun
    · rw [upd_ne e]; exact h
  · by_cases e : j = i
    · subst e
      refine ⟨o', ?_⟩
      unfold setOc
      rw [hj]
      dsimp only
      exact List.getElem?_set_self (List.getElem?_eq_some_iff.mp hj).1
    · refine ⟨q, ?_⟩
      unfold setOc
      split
      · rw [set_ne e]; exact hj
      · rw [set_ne e]; exact hj
      · exact hj
end

/-! ### methods that write -/
/-- the object's kind -/
def isT (T : String) : OC → Prop
  | .L _ => T = "list"
  | .M kvs => T = "dict" ∧ (kvs.all fun p => !isTD p.1) = true
theorem tat_td {K : PySem.W.Frag} {H : Hp} {O : Addr → Prop} {a : Addr} {kvs : List (D × D)} (h : TAt K H O a kvs) : ∃ k v r, kvs = (k, v) :: r ∧ isTD k = true := by
  obtain ⟨es, h0, _, h2, h3, _⟩ := h
  cases es with
  | nil => exact absurd rfl h0
  | cons e es =>
    cases kvs with
    | nil => cases h2
    | cons p kvs =>
      obtain ⟨pk, pv⟩ := p
      refine ⟨pk, pv, kvs, rfl, ?_⟩
      have e1 : keyD pk = some e.1 := by injection h2
      cases h3 with
      | cons f1 f2 =>
        cases f1 with
        | tup _ _ => rfl
        | lst _ _ => cases e1
        | dk _ _ _ _ => cases e1
        | dt _ _ _ _ _ _ => cases e1
theorem ty_oc {K : PySem.W.Frag} {H : Hp} {O : Addr → Prop} {a : Addr} {o : OC} {T : String} (h : OcAt K H O a o) (t : isT T o) : tyV K T (.ref a) H := by
  cases o with
  | L xs =>
    obtain ⟨vs, h1, _⟩ := h
    exact .inl ⟨t, vs, SqL.of h1⟩
  | M kvs =>
    rcases h with ⟨ks, h1, _⟩ | h
    · exact .inr (.inr (.inl ⟨t.1, .inl ⟨ks, h1⟩⟩))
    · obtain ⟨k, v, r, rfl, e⟩ := tat_td h
      have := t.2
      rw [List.all_cons, e] at this
      cases this
instance (T : String) (o : OC) : Decidable (isT T o) := by cases o <;> (unfold isT; infer_instance)
/-- a method's rule: what the object becomes, what is handed on -/
def OpM (K : PySem.W.Frag) (r : V → List V → Hp → VK → Prop) (g : OC → List D → Option (OC × D)) : Prop :=
  ∀ (H : Hp) (O : Addr → Prop) (a : Addr) (o o' : OC) (xs : List V) (ds : List D) (z : D) (Q : VK), (∀ a, O a → H a ≠ none) → O a → OcAt K H O a o → FzAll K H O xs ds → g o ds = some (o', z) →
    (∀ u v, OcAt K (upd H a u) O a o' → Fz K (upd H a u) O v z → Q v (upd H a u)) → r (.ref a) xs H Q
def mMt (T : String) (i : Nat) (g : OC → List D → Option (OC × D)) (ms : MDs) : ME := fun ρ => (ocOf ρ[i]?).bind fun o0 => if isT T o0 then (ms ρ).bind fun p => (ocOf p.2[i]?).bind fun o => (g o p.1).map fun q => (.d q.2, setOc p.2 i q.1) else none
section
variable {X : Cx} {e : Expr} {es : List Expr} {x name : Str} {ms : MDs} {i : Nat} {T id : String} {r : V → List V → Hp → VK → Prop} {g : OC → List D → Option (OC × D)} {p apos cpos pos : Pos}
theorem mt_step {σ : L2.St} {H : Hp} {Q : VK} {ρ : Ev} {O : Addr → Prop} {o0 : OC} {xv : V} {zr : RV} {ρ' : Ev} (hg : OpM X.K r g) (E : EnvOk X.K H O σ ρ) (hx : σ[i]? = some (some xv)) (h0 : ocOf ρ[i]? = some o0)
    (h : ((ms ρ).bind fun p => (ocOf p.2[i]?).bind fun o => (g o p.1).map fun q => (RV.d q.2, setOc p.2 i q.1)) = some (zr, ρ'))
    (k : ∀ x H' O', EnvOk X.K H' O' σ ρ' → Stp σ ρ O H σ ρ' O' H' → RvOk X.K H H' O' σ ρ' x zr → Q x H') : tDs X.K ms σ H fun xs H2 => r xv xs H2 Q := by
  obtain ⟨⟨ds, ρ1⟩, e2, e3⟩ := Option.bind_eq_some_iff.mp h
  obtain ⟨o, e4, e5⟩ := Option.bind_eq_some_iff.mp e3
  obtain ⟨⟨o', z⟩, e6, e7⟩ := Option.map_eq_some_iff.mp e5
  cases e7
  refine ⟨ρ, O, ds, ρ1, E, e2, fun xs H1 O1 E1 S1 F1 => ?_⟩
  obtain ⟨a, es, oa, fa, ed⟩ := oc_at E1 e4
  rw [hx] at es
  cases es
  refine hg H1 O1 a o o' xs ds z Q E1.tr oa fa F1 e6 fun u v w f => ?_
  obtain ⟨E2, S2⟩ := E1.wr e4 hx w
  exact k v _ O1 E2 (Stp.trans E.tr S1 S2) f
theorem p_mt (pa : PlainAttrs T) (slot : Slot T name id) (hty : typeOf (.builtin id) = pure (.type "method_descriptor")) (hm : MtR X id r) (hg : OpM X.K r g) (ha : PA X (e :: es) (tDs X.K ms)) (hi : X.N[i]? = some x := by rfl) (hv : Vis X.env.scope x := by first | exact Or.inl rfl | exact Or.inr (Or.inl rfl) | exact Or.inr (Or.inr rfl))
    (hd : (x == ("__debug__" : Str)) = false := by decide) (hcd : (x == ("__classdict__" : Str)) = false := by decide)
    (hbase : attributeBase (.Name x p) name X.env (eval (.Name x p) X.env) = eval (.Name x p) X.env := by rfl)
    (hfew : ((backTo cpos (starEach (e :: es) X.env)).all (fun x => !x.1) && (backToKw cpos (keywordEach [] X.env)).all (fun x => x.1.isSome)
      && decide ((e :: es).length + ([] : List Keyword).length + (if ([] : List Keyword).isEmpty then 0 else 1) < 30)) = true := by rfl)
    (hline : (apos.endLine == cpos.line) = true := by rfl) (hs : starEach (e :: es) X.env = (false, eval e X.env) :: starEach es X.env := by rfl) (hplain : (backTo cpos (starEach es X.env)).any (·.1) = false := by rfl) :
    PE X (.Call (.Attribute (.Name x p) name apos) (e :: es) [] cpos) (tE X.K (mMt T i g ms)) :=
  PE.of (pe_bm pa slot hty hm (pe_var hi hv hd hcd) ha hbase hfew hline hs hplain) fun σ H Q ⟨ρ, O, zr, ρ', E, e1, k⟩ => by
    obtain ⟨o0, h0, e2⟩ := Option.bind_eq_some_iff.mp e1
    split at e2
    · rename_i ht
      obtain ⟨a, es, oa, fa, ed⟩ := oc_at E h0
      exact ⟨.ref a, es, ty_oc fa ht, mt_step hg E es h0 e2 k⟩
    · cases e2
end

/-! ### append, extend, pop, reverse -/
def lo (x : Option (List D × D)) : Option (OC × D) := x.map fun p => (.L p.1, p.2)
def gApp : OC → List D → Option (OC × D)
  | .L xs, [y] => if xs.length < sizeLine then some (.L (xs ++ [y]), .none) else none
  | _, _ => none
theorem om_append {K : PySem.W.Frag} : OpM K rAppend gApp := by
  intro H O a o o' xs ds z Q tr oa fa F g k
  unfold gApp at g
  split at g
  · rename_i l y
    split at g
    · rename_i hz
      cases g
      obtain ⟨vs, h1, h2⟩ := fa
      cases F with
      | cons f t =>
        cases t
        exact ⟨a, vs, _, rfl, rfl, h1, by rw [h2.length]; exact hz, k _ _ ⟨_, upd_same, FzAll.mv (poke_mv oa) _ _ (h2.append (.cons f .nil))⟩ .non⟩
    · cases g
  · cases g
/-- l.extend(x), x a list or a tuple of any kind -/
theorem list_extW (l b : Addr) (T : String) (hT : T = "list" ∨ T = "tuple") (its its2 : Array Value) (n n2 : Nat) (dd : Option Addr) (sl : Array (Option Value)) (hne : ¬(!its.isEmpty && Builtin.List.listTooLong (its.size + its2.size)) = true) (h1 : its.size ≤ sizeLine) (h2 : its.size + its2.size ≤ sizeLine + 1) :
    Meets (Builtin.«list.extend» ⟨[.ref l, .ref b], []⟩) (fun _ R s => s.heap.get? l = some { cls := .type "list", dict := none, data := .seq its n, slots := #[] } ∧ s.heap.get? b = some { cls := .type T, dict := dd, data := .seq its2 n2, slots := sl } ∧
      R (.ok (.ret Value.none)) { s with heap := s.heap.update l (Obj.mapSeq fun x => x ++ its2), toks := s.toks }) := by
  rcases hT with rfl | rfl
  all_goals
    refine .of_wp fun prog w A R s h => ?_
    obtain ⟨hp, g, d, tk, os⟩ := s
    obtain ⟨hl, hb, h⟩ := h
    have f1 := AutoSeq1.idx_int
    have f2 := AutoSeq1.sub_tuple_tuple
    have f3 := AutoSeq1.sub_list_list
    have f4 := AutoSeq1.sub_tuple_list
    have f5 := AutoSeq1.sub_list_tuple
    have hz' : (its ++ its2).size ≤ sizeLine + 1 := by rw [Array.size_append]; omega
    wp_walk using (wpAny_updateSeq hl rfl (hz := h1) (_hz' := hz')), AutoSeq1.wpAny_loadPart' hl, AutoSeq1.wpAny_loadPart' hb
    exact ⟨_, rfl, h⟩
def rExtQ (K : PySem.W.Frag) : V → List V → Hp → VK → Prop := fun x vs H Q => ∃ l b xs zs, x = .ref l ∧ vs = [.ref b] ∧ H l = some (.lst xs) ∧ (SqL K H b zs ∨ SqT K H b zs) ∧ xs.length + zs.length ≤ sizeLine ∧ Q .non (upd H l (.lst (xs ++ zs)))
theorem mt_extendQ {X : Cx} : MtR X "list.extend" (rExtQ X.K) := by
  intro pins s σ H x vs v us Q I rx rv h
  obtain ⟨l, b, xs, zs, rfl, rfl, hH, hB, hz, q⟩ := h
  cases rx
  obtain ⟨u, rfl, ru⟩ := rv.one
  cases ru
  obtain ⟨z, its, n, r, hl, e⟩ := I.lstM hH
  have main : ∀ (its2 : List Value) (T : String) (n2 : Nat) (dd : Option Addr) (sl : Array (Option Value)), Vals zs its2 → (T = "list" ∨ T = "tuple") → s.heap.get? b = some { cls := .type T, dict := dd, data := .seq its2.toArray n2, slots := sl } → wpAny (model X.prog X.w) X.A (call (.builtin "list.extend") [.ref l, .ref b]) (EP X pins σ Q) X.xe s := by
    intro its2 T n2 dd sl r2 hT e2
    have hl2 := r2.length
    have hsz : its.toArray.size + its2.toArray.size ≤ sizeLine := by rw [List.size_toArray, List.size_toArray]; omega
    refine call_meets F.slot_list_extend ⟨_, e, rfl⟩ F.entry_list_extend (F.args_list_extend_2 _ _)
      (list_extW l b T hT its.toArray its2.toArray n n2 dd sl (by rw [notLongL hsz, Bool.and_false]; exact Bool.false_ne_true) (by rw [List.size_toArray]; omega) (by omega)) ⟨e, e2, ?_⟩
    refine ⟨.non, _, I.lset (its' := its ++ its2) hH e (by simp) (r.append r2) ?_, rfl, q⟩
    rw [List.length_append]
    omega
  rcases hB with hB | hB
  · obtain ⟨its2, r2, ⟨⟨cls, dd, data, sl⟩, n2, ho, hc, hd, hdt⟩, _⟩ := I.list hB
    dsimp only at hc hdt
    subst hc; subst hdt
    exact main its2 _ n2 dd sl r2 (.inl rfl) ho
  · obtain ⟨its2, r2, ⟨⟨cls, dd, data, sl⟩, ho, hc, n2, hdt⟩, _⟩ := I.tuple hB
    dsimp only at hc hdt
    subst hc; subst hdt
    exact main its2 _ n2 dd sl r2 (.inr rfl) ho
def gExt : OC → List D → Option (OC × D)
  | .L xs, [d] => (seqOf d).bind fun ys => if xs.length + ys.length ≤ sizeLine then some (.L (xs ++ ys), .none) else none
  | _, _ => none
theorem om_extend {K : PySem.W.Frag} : OpM K (rExtQ K) gExt := by
  intro H O a o o' xs ds z Q tr oa fa F g k
  unfold gExt at g
  split at g
  · rename_i l d
    obtain ⟨ys, g1, g2⟩ := Option.bind_eq_some_iff.mp g
    split at g2
    · rename_i hz
      cases g2
      obtain ⟨vs, h1, h2⟩ := fa
      cases F with
      | cons f t =>
        cases t
        cases d with
        | list es =>
          cases g1
          cases f with
          | lst f1 f2 => exact ⟨a, _, vs, _, rfl, rfl, h1, .inl f1.sq, by rw [h2.length, f2.length]; exact hz, k _ _ ⟨_, upd_same, FzAll.mv (poke_mv oa) _ _ (h2.append f2)⟩ .non⟩
        | tuple es =>
          cases g1
          cases f with
          | tup f1 f2 => exact ⟨a, _, vs, _, rfl, rfl, h1, .inr f1.sq, by rw [h2.length, f2.length]; exact hz, k _ _ ⟨_, upd_same, FzAll.mv (poke_mv oa) _ _ (h2.append f2)⟩ .non⟩
        | _ => cases g1
    · cases g2
  · cases g
theorem FzAll.dropLast {K : PySem.W.Frag} {H : Hp} {O : Addr → Prop} : ∀ {xs : List V} {ds : List D}, FzAll K H O xs ds → FzAll K H O xs.dropLast ds.dropLast
  | _, _, .nil => .nil
  | _, _, .cons r .nil => .nil
  | _, _, .cons r (.cons q t) => .cons r (FzAll.dropLast (.cons q t))
def gPopAt : OC → List D → Option (OC × D)
  | .L xs, [.int i] => if -(2 ^ 63) ≤ i ∧ i < 2 ^ 63 then (seqIndex? i xs.length).bind fun k => (xs[k]?).map fun y => (.L (xs.eraseIdx k), y) else none
  | _, _ => none
theorem om_popAt {K : PySem.W.Frag} : OpM K rPopAt gPopAt := by
  intro H O a o o' xs ds z Q tr oa fa F g k
  unfold gPopAt at g
  split at g
  · rename_i l i
    split at g
    · rename_i hb
      obtain ⟨j, g1, g2⟩ := Option.bind_eq_some_iff.mp g
      obtain ⟨y, g3, g4⟩ := Option.map_eq_some_iff.mp g2
      cases g4
      obtain ⟨vs, h1, h2⟩ := fa
      cases F with
      | cons f t =>
        cases t
        cases f
        obtain ⟨v, g5, g6⟩ := h2.get g3
        exact ⟨a, vs, i, j, v, rfl, rfl, h1, hb.1, hb.2, by rw [h2.length]; exact g1, g5, k _ _ ⟨_, upd_same, FzAll.mv (poke_mv oa) _ _ (h2.eraseIdx j)⟩ (Fz.mv (poke_mv oa) _ _ g6)⟩
    · cases g
  · cases g
/-! ### x[i] = e on an own list -/
/-- what a dict becomes: a key stored -/
def dSet (kvs : List (D × D)) (k : NestedKey) (x d : D) : List (D × D) := if (dFind kvs k).isSome = true then kvs.map fun p => if keyD p.1 = some k then (p.1, d) else p else kvs ++ [(x, d)]
def dPut (kvs : List (D × D)) (x d : D) : Option (List (D × D)) := (keyD x).bind fun k => if kOk kvs x = true ∧ kvs.length < 2 ^ 20 then some (dSet kvs k x d) else none
def putQ (d x : D) (o : OC) : Option OC := match o with
  | .L xs => match x with
    | .int k => (ixN xs.length k).map fun j => .L (xs.set j d)
    | _ => none
  | .M kvs => (dPut kvs x d).map .M
def mPut (i : Nat) (mi me : ME) : MS := fun ρ => (mF me ρ).bind fun p => (ocOf p.2[i]?).bind fun _ => (mi p.2).bind fun q => (look q.2 q.1).bind fun x => (ocOf q.2[i]?).bind fun o => (putQ p.1 x o).map fun o' => (.nx, setOc q.2 i o')
section
variable {K : PySem.W.Frag} {H : Hp} {O : Addr → Prop}
theorem FzKv.app : ∀ {vs ws : List V} {ds es : List (D × D)}, FzKv K H O vs ds → FzKv K H O ws es → FzKv K H O (vs ++ ws) (ds ++ es)
  | _, _, _, _, .nil, h => h
  | _, _, _, _, .cons r t, h => .cons r (FzKv.app t h)
theorem FzKk.app : ∀ {vs ws : List V} {ds es : List (D × D)}, FzKk K H O vs ds → FzKk K H O ws es → FzKk K H O (vs ++ ws) (ds ++ es)
  | _, _, _, _, .nil, h => h
  | _, _, _, _, .cons r t, h => .cons r (FzKk.app t h)
theorem map_k (q : Key) {v : V} {d : D} (f : Fz K H O v d) : ∀ {ks : List (Key × V)} {kvs : List (D × D)}, ks.map (fun p => kD p.1) = kvs.map (·.1) → FzKv K H O (ks.map (·.2)) kvs →
    FzKv K H O ((ks.map fun kv => if kv.1 = q then (kv.1, v) else kv).map (·.2)) (kvs.map fun p => if keyD p.1 = some (nkK q) then (p.1, d) else p)
  | [], [], _, _ => .nil
  | [], _ :: _, h, _ => by cases h
  | _ :: _, [], h, _ => by cases h
  | (k1, w) :: ks, (d1, e) :: kvs, h, g => by
    cases g with
    | cons g1 g2 =>
      have h1 : kD k1 = d1 := by injection h
      have ih := map_k q f (by injection h) g2
      rw [List.map_cons, List.map_cons, List.map_cons, ← h1]
      dsimp only
      rw [nk_kD]
      by_cases z : k1 = q
      · subst z
        rw [if_pos rfl, if_pos rfl]
        exact .cons f ih
      · rw [if_neg z, if_neg fun y => z (nkK_inj (Option.some.inj y))]
        exact .cons g1 ih
theorem keys_map {k : NestedKey} {d : D} {kvs : List (D × D)} : (kvs.map fun p => if keyD p.1 = some k then (p.1, d) else p).map (·.1) = kvs.map (·.1) := by
  rw [List.map_map]
  refine List.map_congr_left fun p _ => ?_
  dsimp only [Function.comp]
  split <;> rfl
theorem put_k (q : Key) {v : V} {d : D} (f : Fz K H O v d) {ks : List (Key × V)} {kvs : List (D × D)} (h : ks.map (fun p => kD p.1) = kvs.map (·.1)) (g : FzKv K H O (ks.map (·.2)) kvs) :
    (putK ks q v).map (fun p => kD p.1) = (dSet kvs (nkK q) (kD q) d).map (·.1) ∧ FzKv K H O ((putK ks q v).map (·.2)) (dSet kvs (nkK q) (kD q) d) := by
  have e := fzo_some (find_k q h g)
  unfold putK dSet
  rw [valV_any, e]
  cases hs : (dFind kvs (nkK q)).isSome with
  | true =>
    rw [if_pos rfl, if_pos rfl]
    refine ⟨?_, map_k q f h g⟩
    rw [keys_map, ← h, List.map_map]
    refine List.map_congr_left fun p _ => ?_
    dsimp only [Function.comp]
    split <;> rfl
  | false =>
    rw [if_neg (by simp), if_neg (by simp)]
    refine ⟨?_, ?_⟩
    · rw [List.map_append, List.map_append, h]
      rfl
    · rw [List.map_append]
      exact g.app (.cons f .nil)
theorem map_t (k : NestedKey) {v : V} {d : D} (f : Fz K H O v d) : ∀ {es : List (NestedKey × Addr × V)} {kvs : List (D × D)}, kvs.map (fun p => keyD p.1) = es.map (fun e => some e.1) → FzKk K H O (es.map fun e => .ref e.2.1) kvs → FzKv K H O (es.map (·.2.2)) kvs →
    FzKk K H O ((es.map fun e => if e.1 = k then (e.1, e.2.1, v) else e).map fun e => .ref e.2.1) (kvs.map fun p => if keyD p.1 = some k then (p.1, d) else p) ∧
    FzKv K H O ((es.map fun e => if e.1 = k then (e.1, e.2.1, v) else e).map (·.2.2)) (kvs.map fun p => if keyD p.1 = some k then (p.1, d) else p)
  | [], [], _, _, _ => ⟨.nil, .nil⟩
  | [], _ :: _, h, _, _ => by cases h
  | _ :: _, [], h, _, _ => by cases h
  | (k1, b, w) :: es, (d1, e) :: kvs, h, gk, g => by
    cases g with
    | cons g1 g2 =>
      cases gk with
      | cons gk1 gk2 =>
        have h1 : keyD d1 = some k1 := by injection h
        obtain ⟨i1, i2⟩ := map_t k f (by injection h) gk2 g2
        rw [List.map_cons, List.map_cons, List.map_cons, List.map_cons]
        dsimp only
        rw [h1]
        by_cases z : k1 = k
        · rw [if_pos z, if_pos (by rw [z])]
          exact ⟨.cons gk1 i1, .cons f i2⟩
        · rw [if_neg z, if_neg fun y => z (Option.some.inj y)]
          exact ⟨.cons gk1 i1, .cons g1 i2⟩
theorem put_t (k : NestedKey) {b : Addr} {v : V} {x d : D} (hx : keyD x = some k) (fx : Fz K H O (.ref b) x) (f : Fz K H O v d) {es : List (NestedKey × Addr × V)} {kvs : List (D × D)} (h : kvs.map (fun p => keyD p.1) = es.map (fun e => some e.1)) (gk : FzKk K H O (es.map fun e => .ref e.2.1) kvs) (g : FzKv K H O (es.map (·.2.2)) kvs) :
    (dSet kvs k x d).map (fun p => keyD p.1) = (tput es k b v).map (fun e => some e.1) ∧ FzKk K H O ((tput es k b v).map fun e => .ref e.2.1) (dSet kvs k x d) ∧ FzKv K H O ((tput es k b v).map (·.2.2)) (dSet kvs k x d) := by
  have e := fzo_some (find_t k h g)
  unfold tput dSet
  rw [e]
  cases hs : (dFind kvs k).isSome with
  | true =>
    rw [if_pos rfl, if_pos rfl]
    refine ⟨?_, map_t k f h gk g⟩
    have key : ∀ L : List (D × D), L.map (fun p => keyD p.1) = (L.map (·.1)).map keyD := fun L => by
      rw [List.map_map]
      rfl
    rw [key, keys_map, ← key, h, List.map_map]
    refine List.map_congr_left fun p _ => ?_
    dsimp only [Function.comp]
    split <;> rfl
  | false =>
    rw [if_neg (by simp), if_neg (by simp)]
    refine ⟨?_, ?_, ?_⟩
    · rw [List.map_append, List.map_append, h]
      show _ ++ [keyD x] = _
      rw [hx]
      rfl
    · rw [List.map_append]
      exact gk.app (.cons fx .nil)
    · rw [List.map_append]
      exact g.app (.cons f .nil)
end
def rSetDict (K : PySem.W.Frag) : V → V → V → Hp → (Hp → Prop) → Prop := fun o i v H Q => ∃ a, o = .ref a ∧ ((∃ H', DPut H a i v H' ∧ Q H') ∨ ∃ es k b, i = .ref b ∧ TTab K H a es ∧ Mut (H a) ∧ NkV K H i k ∧ es.length < sizeLine ∧ Q (upd H a (.ext (TDict TheW.w a (tput es k b v)))))
theorem set_dict {X : Cx} (hw : X.w = TheW.w) (hu : X.A.units + 16 < cLine) : PSet X (rSetDict X.K) := by
  rintro pins s σ H o i v ov iv u Q I ro ri rv ⟨a, rfl, h⟩
  cases (show ov = Value.ref a from ro)
  rcases h with ⟨H', g, q⟩ | ⟨es, k, b, rfl, t, mu, hk, hz, q⟩
  · exact d_setItem (by omega) I g ri rv fun s' I' => ⟨H', I', q⟩
  · cases (show iv = Value.ref b from ri)
    exact t_setItem hw hu I t mu hk rv hz fun s' I' => ⟨_, I', q⟩
def rSetA (K : PySem.W.Frag) : V → V → V → Hp → (Hp → Prop) → Prop := fun o i v H Q => rSetL o i v H Q ∨ rSetDict K o i v H Q
theorem set_any {X : Cx} (hw : X.w = TheW.w) (hu : X.A.units + 16 < cLine) : PSet X (rSetA X.K) := fun pins s σ H o i v ov iv u Q I ro ri rv h => h.elim (set_list pins s σ H o i v ov iv u Q I ro ri rv) (set_dict hw hu pins s σ H o i v ov iv u Q I ro ri rv)
/-- an own dict, a key stored: the object -/
theorem oc_put {K : PySem.W.Frag} {H : Hp} {O : Addr → Prop} {a : Addr} {y v : V} {x d : D} {kvs kvs' : List (D × D)} (oa : O a) (h : OcAt K H O a (.M kvs)) (hy : Lk K H O y x) (f : Fz K H O v d) (e : dPut kvs x d = some kvs') {Q : Hp → Prop} (k : ∀ u, OcAt K (upd H a u) O a (.M kvs') → Q (upd H a u)) :
    rSetDict K (.ref a) y v H Q := by
  obtain ⟨nk, hk, e⟩ := Option.bind_eq_some_iff.mp e
  split at e
  rotate_left
  · cases e
  rename_i hok
  cases e
  have hl20 : (2 : Nat) ^ 20 ≤ sizeLine := by rw [sizeLine_eq]; decide
  have mv : ∀ u, Mv H O (upd H a u) O := fun u => ⟨fun b o h n => by rw [upd_ne (fun e : b = a => n (by rw [e]; exact oa))]; exact h, fun _ h => .inl h⟩
  have atom : ∀ q : Key, nk = nkK q → x = kD q → y = kV q → rSetDict K (.ref a) y v H Q := by
    rintro q rfl rfl rfl
    rcases h with ⟨ks, h1, h2, h3⟩ | h
    · obtain ⟨p1, p2⟩ := put_k q f h2 h3
      have kl : ks.length = kvs.length := by have := congrArg List.length h2; simpa using this
      exact ⟨a, rfl, .inl ⟨_, DPut.k h1 (by omega), k _ (.inl ⟨_, upd_same, p1, FzKv.mv (mv _) _ _ p2⟩)⟩⟩
    · obtain ⟨k', v', r, rfl, etd⟩ := tat_td h
      have hok : (isTD k' == isTD (kD q)) = true := hok.1
      rw [etd] at hok
      cases q <;> cases hok
  cases x with
  | int i => cases hk; exact atom (.inl i) rfl rfl (lk_int hy)
  | str z => cases hk; exact atom (.inr z) rfl rfl (lk_str hy)
  | tuple ds =>
    obtain ⟨⟨b, rfl⟩, hn⟩ := nkv_tup hy hk
    have fx := lk_fz hy rfl
    rcases h with ⟨ks, h1, h2, h3⟩ | ⟨es, h0, h1, h2, h3, h4⟩
    · cases ks with
      | cons q ks =>
        exfalso
        cases kvs with
        | nil => cases h2
        | cons p kvs =>
          obtain ⟨pk, pv⟩ := p
          obtain ⟨qk, qv⟩ := q
          have e1 : kD qk = pk := by injection h2
          have hok : (isTD pk == true) = true := hok.1
          rw [← e1] at hok
          cases qk <;> cases hok
      | nil =>
        cases kvs with
        | cons p kvs => cases h2
        | nil =>
          refine ⟨a, rfl, .inr ⟨[], nk, b, rfl, .inr ⟨rfl, .inl h1⟩, by rw [h1]; trivial, hn, by rw [sizeLine_eq]; decide, k _ (.inr ⟨[(nk, b, v)], nofun, upd_same, ?_, .cons (Fz.mv (mv _) _ _ fx) .nil, .cons (Fz.mv (mv _) _ _ f) .nil⟩)⟩⟩
          show [keyD (.tuple ds)] = _
          rw [hk]
          rfl
    · obtain ⟨p1, p2, p3⟩ := put_t nk hk fx f h2 h3 h4
      have kl : es.length = kvs.length := by have := congrArg List.length h2; simpa using this.symm
      refine ⟨a, rfl, .inr ⟨es, nk, b, rfl, .inl ⟨h1, keys_t h2 h3⟩, by rw [h1]; trivial, hn, by omega, k _ (.inr ⟨tput es nk b v, ?_, upd_same, p1, FzKk.mv (mv _) _ _ p2, FzKv.mv (mv _) _ _ p3⟩)⟩⟩
      intro e
      have : (tput es nk b v).length = 0 := by rw [e]; rfl
      unfold tput at this
      split at this
      · rw [List.length_map] at this
        exact h0 (List.length_eq_zero_iff.mp this)
      · rw [List.length_append] at this
        cases es <;> simp at this
  | _ => cases hk
section
variable {X : Cx} {e ix : Expr} {x : Str} {i : Nat} {mi me : ME} {p spos pos : Pos}
theorem s_put (hu : X.A.units + 65 < cLine) (he : PE X e (tE X.K me)) (hx : PE X ix (tE X.K mi)) (hi : X.N[i]? = some x := by rfl) (hv : Vis X.env.scope x := by first | exact Or.inl rfl | exact Or.inr (Or.inl rfl) | exact Or.inr (Or.inr rfl))
    (hd : (x == ("__debug__" : Str)) = false := by decide) (hcd : (x == ("__classdict__" : Str)) = false := by decide)
    (hs : swapsWithSole [.Subscript (.Name x p) ix spos] e pos.line X.env = pure false := by rfl) (hw : swappedStores [.Subscript (.Name x p) ix spos] e X.env = pure none := by rfl)
    (h1 : (assignEach [.Subscript (.Name x p) ix spos] X.env).map (·.2) = [assign (.Subscript (.Name x p) ix spos) X.env] := by rfl)
    (ha : ∀ v, assign (.Subscript (.Name x p) ix spos) X.env v = (do
      let ov ← holding [v] (eval (.Name x p) X.env)
      let iv ← holding [v, ov] (eval ix X.env)
      standAt spos
      holding [v, ov, iv] (setItem ov iv v)
      release [v, ov, iv] []) := by intro _; rfl) (hww : X.w = TheW.w := by rfl) : PS X (.Assign [.Subscript (.Name x p) ix spos] e pos) (tS X.K (mPut i mi me)) :=
  PS.of (ps_asg (pd_of he) (pg_sub (pe_var hi hv hd hcd) hx (set_any hww (by omega)) ha) hs hw h1) fun σ H D ⟨ρ, O, o, ρ', E, e1, k⟩ => by
    obtain ⟨⟨d, ρ1⟩, e2, e3⟩ := Option.bind_eq_some_iff.mp e1
    obtain ⟨o0, h0, e3⟩ := Option.bind_eq_some_iff.mp e3
    obtain ⟨⟨r, ρ2⟩, e4, e5⟩ := Option.bind_eq_some_iff.mp e3
    obtain ⟨xd, hl, e5⟩ := Option.bind_eq_some_iff.mp e5
    obtain ⟨o1, ho, e5⟩ := Option.bind_eq_some_iff.mp e5
    obtain ⟨o2, hp, e7⟩ := Option.map_eq_some_iff.mp e5
    cases e7
    refine ⟨ρ, O, d, ρ1, E, e2, fun v H1 O1 E1 S1 F1 => ?_⟩
    obtain ⟨a, es, oa, fa, ed⟩ := oc_at E1 h0
    refine ⟨.ref a, es, ρ1, O1, r, ρ2, E1, e4, fun iv H2 O2 E2 S2 R2 => ?_⟩
    obtain ⟨a', es', oa2, hoc, ed2⟩ := oc_at E2 ho
    rw [es] at es'
    cases es'
    cases o1 with
    | L xs =>
      obtain ⟨vs, f1, f2⟩ := hoc
      cases xd with
      | int kk =>
        obtain ⟨j, e6, rfl⟩ := Option.map_eq_some_iff.mp (show (ixN xs.length kk).map (fun j => OC.L (xs.set j d)) = some o2 from hp)
        obtain ⟨E3, S3⟩ := E2.wr (u := .lst (vs.set j v)) (o' := .L (xs.set j d)) ho es ⟨_, upd_same, FzAll.mv (poke_mv oa2) _ _ (f2.set j (Fz.mv (S2.mv E1) _ _ F1))⟩
        exact .inl ⟨a, vs, kk, j, rfl, lk_int (look_ok E2 R2 hl), f1, by rw [f2.length]; exact e6, k σ _ O2 E3 (Stp.trans E.tr S1 (Stp.trans E1.tr S2 S3))⟩
      | _ => cases hp
    | M kvs =>
      obtain ⟨kvs', e6, rfl⟩ := Option.map_eq_some_iff.mp (show (dPut kvs xd d).map OC.M = some o2 from hp)
      refine .inr (oc_put oa2 hoc (look_ok E2 R2 hl) (Fz.mv (S2.mv E1) _ _ F1) e6 fun u hn => ?_)
      obtain ⟨E3, S3⟩ := E2.wr (u := u) (o' := .M kvs') ho es hn
      exact k σ _ O2 E3 (Stp.trans E.tr S1 (Stp.trans E1.tr S2 S3))
end
end PL

/-! PL11: isinstance, repr, str, index, join, reversed cuts. -/
namespace PL
open PySem PySem.Spec PyProof.Rows L2
variable [TheW]

/-! ### a data's type -/
def tyN : D → String
  | .none => "NoneType"
  | .bool _ => "bool"
  | .int _ => "int"
  | .str _ => "str"
  | .list _ => "list"
  | .tuple _ => "tuple"
  | .dict _ => "dict"
/-- isinstance's answer -/
def isTN (T t : String) : Bool := T == t || (T == "int" && t == "bool")
def allTy : List String := ["NoneType", "bool", "int", "str", "list", "tuple", "dict"]
theorem kit_all {T : String} (h : T ∈ ["bool", "int", "str", "list", "tuple", "dict"]) : ∀ t ∈ allTy, kitB t T = some (isTN T t) := by
  have : ∀ T ∈ ["bool", "int", "str", "list", "tuple", "dict"], ∀ t ∈ allTy, kitB t T = some (isTN T t) := by decide +kernel
  exact this T h
theorem tyN_in (d : D) : tyN d ∈ allTy := by cases d <;> simp [tyN, allTy]
section
variable {K : PySem.W.Frag} {H : Hp} {O : Addr → Prop} {x : V} {d : D}
theorem ty_rd {a : Addr} {xs : List V} (h : Rd H a (.lst xs)) : TyX K H (.ref a) (.type "list") := by
  rcases h with h | ⟨o, h⟩
  · exact .base (.lst h)
  · exact .base (.frz h)
/-- .. or a dict whose keys are tuples -/
def TyZ (K : PySem.W.Frag) (H : Hp) (x : V) (t : Value) : Prop := TyX K H x t ∨ ∃ a es, x = .ref a ∧ H a = some (.ext (TDict TheW.w a es)) ∧ t = .type "dict"
theorem TyZ.base {t : Value} (h : TyX K H x t) : TyZ K H x t := .inl h
theorem lk_ty (h : Lk K H O x d) : TyZ K H x (.type (tyN d)) := by
  rcases h with h | ⟨a, o, rfl, rfl, h⟩
  · cases h with
    | non => exact .inl <| .base .non
    | bl b => exact .inl <| .base (.bl b)
    | int i => exact .inl <| .base (.int i)
    | str z => exact .inl <| .base (.str z)
    | lst h1 _ =>
      rcases h1 with ⟨h1, _⟩ | ⟨o, its, n, h1, h2, _⟩
      · exact .inl <| ty_rd h1
      · exact .inl <| .kList h1 h2
    | tup h1 _ =>
      rcases h1 with ⟨o, h1, _⟩ | ⟨o, its, n, h1, h2, _⟩
      · exact .inl <| .fTuple h1
      · exact .inl <| .kTuple h1 h2
    | dk h1 _ _ _ => exact .inl <| .base (.dK h1)
    | dt _ h1 _ _ _ _ => exact .inr ⟨_, _, rfl, h1, rfl⟩
  · cases o with
    | L xs =>
      obtain ⟨vs, h1, _⟩ := h
      exact .inl <| .base (.lst h1)
    | M kvs =>
      rcases h with ⟨ks, h1, _⟩ | ⟨es, _, h1, _⟩
      · exact .inl <| .base (.dK h1)
      · exact .inr ⟨_, _, rfl, h1, rfl⟩
end
section
variable {X : Cx} {a : Expr} {ma : ME} {p p2 pos : Pos} {T : Str} {Ts : String}
def rIsiZ (K : PySem.W.Frag) : List V → Hp → VK → Prop := fun xs H Q => ∃ x c t u b, xs = [x, c] ∧ ClsV c u ∧ TyZ K H x t ∧ PySem.W.kitOne K t u = some b ∧ Q (.bl b) H
theorem call_isiZ {X : Cx} : CallR X (.builtin "isinstance") (rIsiZ X.K) := by
  rintro pins s σ H xs us Q I r ⟨x, c, t, u, b, rfl, k, ty, e, q⟩
  rcases ty with ty | ⟨a, es, rfl, ea, rfl⟩
  · exact call_isi pins s σ H _ us Q I r ⟨x, c, t, u, b, rfl, k, ty, e, q⟩
  · obtain ⟨u1, u2, rfl, r1, r2⟩ := vals2 r
    have e2 := k.eq r2; subst e2
    cases (show u1 = Value.ref a from r1)
    obtain ⟨⟨_, _, _, xs, o, ds, ep, _, ho, hc, _⟩, _⟩ := (show ObjOk X.prog X.w H s.heap a (.ext (TDict TheW.w a es)) from I.hok a _ ea)
    exact PySem.W.kia_one PySem.W.kitx_dict I.kIn ⟨o, ho, hc.1⟩ e (fun z => nomatch z) fun tk => ⟨.bl b, H, I.tok tk, rfl, q⟩
def gIsi (T : String) (d : D) : Option RV := some (.d (.bool (isTN T (tyN d))))
theorem p_isi (Ts : String) (hT : Ts ∈ ["bool", "int", "str", "list", "tuple", "dict"] := by decide) (hmT : X.mg (Ts : Str) = none) (hvT : bootBuiltins (Ts : Str) = some (.type Ts)) (hm : X.mg "isinstance" = none) (ha : PE X a (tE X.K ma))
    (hgT : Gl X (Ts : Str) := by rfl) (hnT : (Ts : Str) ≠ "__name__" := by decide) (hdT : ((Ts : Str) == ("__debug__" : Str)) = false := by decide) (hgl : Gl X "isinstance" := by rfl)
    (hs1 : starEach [a, .Name (Ts : Str) p2] X.env = (false, eval a X.env) :: starEach [.Name (Ts : Str) p2] X.env := by rfl) (hs2 : starEach [.Name (Ts : Str) p2] X.env = (false, eval (.Name (Ts : Str) p2) X.env) :: starEach [] X.env := by rfl)
    (hpl : (backTo pos (starEach [.Name (Ts : Str) p2] X.env)).any (·.1) = false := by rfl) : PE X (.Call (.Name "isinstance" p) [a, .Name (Ts : Str) p2] [] pos) (tE X.K (m1 (gIsi Ts) ma)) :=
  PE.of (pe_callB call_isiZ hgl hm PyProof.Rows.boot_isinstance (pa_cons ha (pa_cons (pe_bltn (v := .ty Ts) hgT hmT hvT rfl hnT hdT) pa_nil hs2) hs1) (by decide) (by decide) hs1 hpl) fun σ H Q ⟨ρ, O, z, ρ', E, e1, k⟩ => by
    obtain ⟨⟨r1, ρ1⟩, h1, e1⟩ := Option.bind_eq_some_iff.mp e1
    obtain ⟨d, h3, e1⟩ := Option.bind_eq_some_iff.mp e1
    obtain ⟨z', h5, e1⟩ := Option.map_eq_some_iff.mp e1
    cases e1
    cases h5
    refine ⟨ρ, O, r1, _, E, h1, fun x H1 O1 E1 S1 R1 => ?_⟩
    exact ⟨x, .ty Ts, _, _, _, rfl, .ty Ts, lk_ty (look_ok E1 R1 h3), kit_ty (kit_all hT _ (tyN_in d)), k _ H1 O1 E1 S1 (.bl _)⟩
end

/-! ### repr, str -/
/-- no dict, and its text fits -/
def showsD (d : D) : Bool := SeqAt.shaped d && d.showable && decide (d.shown.length ≤ sizeLine)
theorem depth_le {d : D} (h : SeqAt.shaped d = true) : d.canLay0 = true ∧ d.depth ≤ 64 := by
  have h : (d.canLay0 && decide (d.depth ≤ 64)) = true := h
  rw [Bool.and_eq_true, decide_eq_true_eq] at h
  exact h
def gStr : List D → Option RV
  | [.int i] => if i.natAbs.log2 < 1920 then some (.d (.str (toString i))) else none
  | _ => none
/-! ### methods that read -/
def tyQ (K : PySem.W.Frag) (T : String) (x : V) (H : Hp) : Prop := tyV K T x H ∨ (T = "tuple" ∧ ∃ p o xs, x = .ref p ∧ H p = some (.frz o (.tup xs)) ∧ o.dict = none) ∨ (T = "dict" ∧ ∃ p es, x = .ref p ∧ H p = some (.ext (TDict TheW.w p es)))
theorem tyQ_is {X : Cx} {pins : List (Addr × Obj)} {σ : L2.St} {H : Hp} {s : Shared} {T : String} {x : V} {v : Value} (I : Inv X pins σ H s) (r : RelV x v) (ty : tyQ X.K T x H) :
    s.TypeIs v T ∧ ∀ a, v = .ref a → ∃ ob, s.heap.get? a = some ob ∧ ob.dict = none := by
  rcases ty with ty | ⟨rfl, p, o, xs, rfl, h, hd⟩ | ⟨rfl, p, es, rfl, h⟩
  · exact tyV_is I r ty
  · cases r
    obtain ⟨h0, _, _, _, o', h1, h2, _⟩ := (show ObjOk X.prog X.w H s.heap p (.frz o (.tup xs)) from I.hok p _ h)
    refine ⟨⟨o', h1, h2⟩, fun a e => ?_⟩
    cases e
    exact ⟨o, h0, hd⟩
  · cases r
    obtain ⟨⟨_, _, _, xs, o, ds, ep, _, ho, hc, _⟩, _⟩ := (show ObjOk X.prog X.w H s.heap p (.ext (TDict TheW.w p es)) from I.hok p _ h)
    refine ⟨⟨o, ho, hc.1⟩, fun a e => ?_⟩
    cases e
    exact ⟨o, ho, hc.2.1⟩
theorem lk_tyQ {K : PySem.W.Frag} {H : Hp} {O : Addr → Prop} {x : V} {d : D} (h : Lk K H O x d) (hs : tyN d = "str" ∨ tyN d = "list" ∨ tyN d = "tuple" ∨ tyN d = "dict") : tyQ K (tyN d) x H := by
  cases d with
  | str z => rw [lk_str h]; exact .inl rfl
  | list ds =>
    obtain ⟨a, xs, rfl, h1, _⟩ := lk_list h
    exact .inl (.inl ⟨rfl, xs, h1⟩)
  | tuple ds =>
    cases lk_fz h rfl with
    | tup h1 h2 =>
      rcases h1 with ⟨o, h1, h3, _⟩ | ⟨o, its, n, h1, h3, h4, _⟩
      · exact .inr (.inl ⟨rfl, _, o, _, rfl, h1, h3⟩)
      · exact .inl (.inr (.inl ⟨rfl, o, h1, h3, h4⟩))
  | dict kvs =>
    rcases h with h | ⟨a, o, rfl, e, h⟩
    · cases h with
      | dk h1 _ _ _ => exact .inl (.inr (.inr (.inl ⟨rfl, .inl ⟨_, h1⟩⟩)))
      | dt _ h1 _ _ _ _ => exact .inr (.inr ⟨rfl, _, _, rfl, h1⟩)
    · cases o with
      | L xs => cases e
      | M kvs =>
        rcases h with ⟨ks, h1, _⟩ | ⟨es, _, h1, _⟩
        · exact .inl (.inr (.inr (.inl ⟨rfl, .inl ⟨_, h1⟩⟩)))
        · exact .inr (.inr ⟨rfl, _, _, rfl, h1⟩)
  | none => simp [tyN] at hs
  | bool b => simp [tyN] at hs
  | int i => simp [tyN] at hs
/-- a rule of a method that reads -/
def OpQ (K : PySem.W.Frag) (r : V → List V → Hp → VK → Prop) (g : D → List D → Option RV) : Prop :=
  ∀ (H : Hp) (O : Addr → Prop) (x : V) (d : D) (xs : List V) (ds : List D) (z : RV) (Q : VK), (∀ a, O a → H a ≠ none) → Lk K H O x d → LkAll K H O xs ds → g d ds = some z → (∀ v H' O', ResOk K H O H' O' v z → Q v H') → r x xs H Q
def mMq (T : String) (g : D → List D → Option RV) (mo : ME) (ms : MA) : ME := fun ρ => (mo ρ).bind fun p => (look p.2 p.1).bind fun d0 => if tyN d0 = T then (ms p.2).bind fun q => (look q.2 p.1).bind fun d => (looks q.2 q.1).bind fun ds => (g d ds).map fun z => (z, q.2) else none
section
variable {X : Cx} {o e : Expr} {es : List Expr} {name : Str} {mo : ME} {ms : MA} {T id : String} {r : V → List V → Hp → VK → Prop} {g : D → List D → Option RV} {apos cpos pos : Pos}
theorem p_mq (hT : T = "str" ∨ T = "list" ∨ T = "tuple" ∨ T = "dict") (pa : PlainAttrs T) (slot : Slot T name id) (hty : typeOf (.builtin id) = pure (.type "method_descriptor")) (hm : MtR X id r) (hg : OpQ X.K r g) (ho : PE X o (tE X.K mo)) (ha : PA X (e :: es) (tA X.K ms))
    (hbase : attributeBase o name X.env (eval o X.env) = eval o X.env := by rfl)
    (hfew : ((backTo cpos (starEach (e :: es) X.env)).all (fun x => !x.1) && (backToKw cpos (keywordEach [] X.env)).all (fun x => x.1.isSome)
      && decide ((e :: es).length + ([] : List Keyword).length + (if ([] : List Keyword).isEmpty then 0 else 1) < 30)) = true := by rfl)
    (hline : (apos.endLine == cpos.line) = true := by rfl) (hs : starEach (e :: es) X.env = (false, eval e X.env) :: starEach es X.env := by rfl) (hplain : (backTo cpos (starEach es X.env)).any (·.1) = false := by rfl) :
    PE X (.Call (.Attribute o name apos) (e :: es) [] cpos) (tE X.K (mMq T g mo ms)) := by
  refine ⟨fun pins s σ H Q I ⟨ρ, O, zr, ρ', E, e1, k⟩ => ?_⟩
  obtain ⟨⟨r0, ρ1⟩, e2, e3⟩ := Option.bind_eq_some_iff.mp e1
  obtain ⟨d0, e4, e5⟩ := Option.bind_eq_some_iff.mp e3
  dsimp only at e5
  split at e5
  case isFalse => cases e5
  rename_i ht
  obtain ⟨⟨rs, ρ2⟩, e6, e7⟩ := Option.bind_eq_some_iff.mp e5
  obtain ⟨d, e8, e9⟩ := Option.bind_eq_some_iff.mp e7
  obtain ⟨ds, f1, f2⟩ := Option.bind_eq_some_iff.mp e9
  obtain ⟨z', f3, f4⟩ := Option.map_eq_some_iff.mp f2
  cases f4
  refine wpAny_Call_method_late hbase hfew hline rfl (thn (ho.run pins s σ H (fun x H1 => ∃ O1, EnvOk X.K H1 O1 σ ρ1 ∧ Stp σ ρ O H σ ρ1 O1 H1 ∧ RvOk X.K H H1 O1 σ ρ1 x r0) I ⟨ρ, O, r0, ρ1, E, e2, fun x H1 O1 E1 S1 R1 => ⟨O1, E1, S1, R1⟩⟩) fun v s1 ⟨x, H1, I1, r1, O1, E1, S1, R1⟩ => ?_)
  obtain ⟨h1, h2⟩ := tyQ_is I1 r1 (lk_tyQ (look_ok E1 R1 e4) (by rw [ht]; exact hT))
  rw [ht] at h1
  refine ⟨T, id, pa, slot, hty, h1, h2, ?_⟩
  have hA := ha.run cpos pins s1 σ H1 (fun xs H2 => r x xs H2 Q) I1 ⟨ρ1, O1, rs, _, E1, e6, fun xs H2 O2 E2 S2 R2 => hg H2 O2 x d xs ds _ Q E2.tr (look_ok E2 (R1.stp E1 S2) e8) (looks_ok E2 R2.all f1) f3 fun w H3 O3 R3 => by
    obtain ⟨E3, S3, V3⟩ := R3.done E2
    exact k w H3 O3 E3 (Stp.trans E.tr S1 (Stp.trans E1.tr S2 S3)) (V3.back fun a h => S2.there a (S1.there a h))⟩
  rw [hs] at hA ⊢
  refine Calls.callWith_builtin (by show (false || (backTo cpos (starEach es X.env)).any (·.1)) = false; rw [hplain] <;> rfl) (Calls.evalArgs_plain ?_)
  exact thn hA fun us s2 ⟨vs, H2, I2, r2, q2⟩ => hm pins s2 σ H2 x vs v us Q I2 r1 r2 q2
end
/-- .. of texts, a tuple -/
def firstS (z : Str) : List Str → Option Nat
  | [] => none
  | y :: r => if y = z then some 0 else (firstS z r).map (· + 1)
theorem firstS_ok {z : Str} : ∀ {ds : List Str} {j : Nat}, firstS z ds = some j → ds[j]? = some z ∧ ∀ m, m < j → ds[m]? ≠ some z
  | [], _, h => by cases h
  | y :: r, j, h => by
    unfold firstS at h
    split at h
    · rename_i hy
      cases h
      exact ⟨by rw [hy]; rfl, fun m hm => absurd hm (Nat.not_lt_zero m)⟩
    · rename_i hy
      obtain ⟨i, h1, rfl⟩ := Option.map_eq_some_iff.mp h
      obtain ⟨g1, g3⟩ := firstS_ok h1
      refine ⟨by simpa using g1, fun m hm => ?_⟩
      cases m with
      | zero => simpa using hy
      | succ m => simpa using g3 m (by omega)
def gIndexT : D → List D → Option RV
  | .tuple ds, [.str z] => (strsOf ds).bind fun ss => (firstS z ss).map fun j => .d (.int (j : Nat))
  | _, _ => none
theorem oq_indexT {K : PySem.W.Frag} : OpQ K (fun x xs H Q => ∃ p, ∃ ys : List Str, ∃ z j, x = .ref p ∧ xs = [.str z] ∧ SqT K H p (ys.map V.str) ∧ ys[j]? = some z ∧ (∀ m, m < j → ys[m]? ≠ some z) ∧ Q (.int (j : Nat)) H) gIndexT := by
  intro H O x d xs ds z Q tr hx h e k
  unfold gIndexT at e
  split at e
  · obtain ⟨ss, e1, e2⟩ := Option.bind_eq_some_iff.mp e
    obtain ⟨j, e3, rfl⟩ := Option.map_eq_some_iff.mp e2
    obtain ⟨y, rfl, h1⟩ := lk1 h
    cases lk_str h1
    obtain ⟨a, vs, rfl, h2, h3, _⟩ := lk_tup hx
    rw [strsOf_eq e1] at h3
    rw [fz_strs h3] at h2
    obtain ⟨g1, g2⟩ := firstS_ok e3
    exact ⟨a, ss, _, j, rfl, rfl, h2, g1, g2, k _ _ _ (.same tr (.int _))⟩
  · cases e
section
variable {X : Cx} {e : Expr} {m : ME} {k : Nat} {p1 p2 p3 pos : Pos}
end
end PL

/-! PLS: sets of texts and of tuples of texts, their sizes. -/
namespace PL
open PySem PySem.Spec PyProof.Rows L2
variable [TheW]

/-! ### the different ones, in their order -/
def ddS {κ : Type} [DecidableEq κ] (m : List κ) (k : κ) : List κ := if k ∈ m then m else m ++ [k]
def dd {κ : Type} [DecidableEq κ] (ks : List κ) : List κ := ks.foldl ddS []
section
variable {κ : Type} [DecidableEq κ]
theorem dd_snoc (ks : List κ) (k : κ) : dd (ks ++ [k]) = ddS (dd ks) k := by
  unfold dd
  rw [List.foldl_append]
  rfl
theorem ddS_mem {m : List κ} {k x : κ} : x ∈ ddS m k ↔ x ∈ m ∨ x = k := by
  unfold ddS
  split
  · rename_i h
    exact ⟨.inl, fun z => z.elim id fun e => by rw [e]; exact h⟩
  · simp
theorem foldl_ddS_len (ks : List κ) : ∀ m : List κ, (ks.foldl ddS m).length ≤ m.length + ks.length := by
  induction ks with
  | nil => intro m; exact Nat.le_refl _
  | cons k ks ih =>
    intro m
    refine Nat.le_trans (ih _) ?_
    unfold ddS
    split
    · simp only [List.length_cons]; omega
    · simp only [List.length_cons, List.length_append, List.length_nil]; omega
theorem dd_len (ks : List κ) : (dd ks).length ≤ ks.length := by
  have := foldl_ddS_len ks []
  simpa [dd] using this
theorem dd_full {ks : List κ} : (dd ks).length = ks.length ↔ ks.Nodup := by
  have key : ∀ (ks m : List κ), (ks.foldl ddS m).length = m.length + ks.length ↔ ks.Nodup ∧ ∀ k ∈ ks, k ∉ m := by
    intro ks
    induction ks with
    | nil => intro m; simp
    | cons k ks ih =>
      intro m
      rw [List.foldl_cons, List.nodup_cons]
      by_cases hk : k ∈ m
      · have e : ddS m k = m := by unfold ddS; rw [if_pos hk]
        rw [e]
        have := foldl_ddS_len ks m
        constructor
        · intro z
          simp only [List.length_cons] at z
          omega
        · intro z
          exact absurd hk (z.2 k List.mem_cons_self)
      · have e : (ddS m k).length = m.length + 1 := by unfold ddS; rw [if_neg hk]; simp
        have := ih (ddS m k)
        rw [e] at this
        rw [List.length_cons, ← Nat.add_assoc, Nat.add_right_comm, this]
        constructor
        · rintro ⟨h1, h2⟩
          refine ⟨⟨fun z => h2 k z (ddS_mem.mpr (.inr rfl)), h1⟩, fun x hx => ?_⟩
          rcases List.mem_cons.mp hx with rfl | hx
          · exact hk
          · exact fun z => h2 x hx (ddS_mem.mpr (.inl z))
        · rintro ⟨⟨h1, h2⟩, h3⟩
          refine ⟨h2, fun x hx z => ?_⟩
          rcases ddS_mem.mp z with z | z
          · exact h3 x (List.mem_cons_of_mem _ hx) z
          · exact h1 (by rw [← z]; exact hx)
  have := key ks []
  simpa [dd] using this
end

/-! ### what a set takes in -/
structure Adds (P : Program) (w : World) {κ : Type} [DecidableEq κ] (h0 : Heap) (S : Addr) (most : Nat) (El : Value → κ → Prop) (B : Heap → List κ → Prop) : Prop where
  keep : ∀ (h h' : Heap) (m : List κ), B h m → (∀ o, h.get? S = some o → h'.get? S = some o) → (∀ b o, h0.get? b = some o → h'.get? b = some o) → B h' m
  add : ∀ (A : Around) (E : Value → Shared → Prop) (s : Shared) (v : Value) (k : κ) (m : List κ) (Q : Bool → Shared → Prop), A.units < cLine → m.length < most → El v k → B s.heap m → (∀ b o, h0.get? b = some o → s.heap.get? b = some o) →
    (∀ b h' tk, Heap.SameBut S s.heap h' → s.toks ≤ tk → B h' (ddS m k) → Q b { s with heap := h', toks := tk }) → wpAny (model P w) A (setAdd S v) Q E s
section
variable {P : Program} {w : World} {κ : Type} [DecidableEq κ] {h0 : Heap} {S : Addr} {most : Nat} {El : Value → κ → Prop} {B : Heap → List κ → Prop}
variable {A : Around} {R : Result → Shared → Prop} {it : Addr} {fp wr : List Addr} {G : Array GenState → Array GenState → Prop} {n : Nat} {Pv : Nat → Value → Prop} {St : Nat → Shared → Prop}
/-- the loop behind set(x): r turns are left -/
theorem set_turns (ad : Adds P w h0 S most El B) (W : WalksS P w A.in1 it fp wr G n Pv St) (hS : S ∉ fp) (hw : ∀ b ∈ wr, h0.get? b = none) (hS0 : h0.get? S = none) (ks : List κ) (hn : ks.length = n) (hm : n ≤ most) (hu : A.in1.units < cLine)
    (hv : ∀ i v, Pv i v → ∃ k, ks[i]? = some k ∧ El v k) : ∀ (r i : Nat) (s : Shared), i + r = n → St i s → B s.heap (dd (ks.take i)) → (∀ b o, h0.get? b = some o → s.heap.get? b = some o) →
      (∀ s', Moved (S :: wr) G s s' → B s'.heap (dd ks) → (∀ b o, h0.get? b = some o → s'.heap.get? b = some o) → R (.ok (.ret .none)) s') →
      codeAny (model P w) A (.builtin "set.update.loop" ⟨[.ref S, .ref it], []⟩) R s := by
  have Sw : S ∉ wr := fun z => hS (W.sub _ z)
  have wide : ∀ b ∈ wr, b ∈ S :: wr := fun _ z => List.mem_cons_of_mem _ z
  have kept : ∀ {a b : Shared}, Moved wr G a b → (∀ c o, h0.get? c = some o → a.heap.get? c = some o) → ∀ c o, h0.get? c = some o → b.heap.get? c = some o := fun {a b} mv hk c o e =>
    mv.heap c o (fun z => by rw [hw c z] at e; cases e) (hk c o e)
  intro r
  induction r with
  | zero =>
    intro i s hi st hB hk fin
    have e : i = n := hi
    subst e
    refine codeAny_builtin PyProof.Rows.F.entry_set_update_loop ?_
    rw [Around.under_plainId PyProof.Rows.F.plain_set_update_loop _]
    refine wpAny_bind (m := pyNext (.ref it)) (W.done s _ _ st fun s' mv => ?_)
    have hB' := ad.keep _ _ _ hB (fun o e => mv.heap S o Sw e) (kept mv hk)
    rw [List.take_of_length_le (by omega)] at hB'
    exact wpAny_pure (fin s' (mv.mono wide) hB' (kept mv hk))
  | succ r ih =>
    intro i s hi st hB hk fin
    have lt : i < n := by omega
    refine codeAny_builtin PyProof.Rows.F.entry_set_update_loop ?_
    rw [Around.under_plainId PyProof.Rows.F.plain_set_update_loop _]
    refine wpAny_bind (m := pyNext (.ref it)) (W.item i s _ _ lt st fun v s1 pv st1 mv => ?_)
    obtain ⟨k, hk1, el⟩ := hv i v pv
    have hB1 := ad.keep _ _ _ hB (fun o e => mv.heap S o Sw e) (kept mv hk)
    have len : (dd (ks.take i)).length < most := by
      have h1 := dd_len (ks.take i)
      rw [List.length_take] at h1
      omega
    refine wpAny_bind (wpAny_holding (ad.add A.in1 _ s1 v k _ _ hu len el hB1 (kept mv hk) fun b h' tk sb le hB2 => ?_))
    rw [← dd_snoc, ← take_next hk1] at hB2
    have off : ∀ c o, c ≠ S → s1.heap.get? c = some o → h'.get? c = some o := fun c o ne e => (sb.2 c ne).trans e
    have hk2 : ∀ c o, h0.get? c = some o → h'.get? c = some o := fun c o e => off c o (fun z => by rw [z, hS0] at e; cases e) (kept mv hk c o e)
    refine wpAny_pure ⟨plainId_quiet PyProof.Rows.F.plain_set_update_loop _, ih (i + 1) _ (by omega) (W.frame _ s1 _ _ st1 le fun c hc o e => off c o (fun z => hS (by rw [← z]; exact hc)) e) hB2 hk2 fun s2 mv2 hB3 hk3 => ?_⟩
    refine fin s2 (Moved.trans W.gtrans ((mv.mono wide).then_heap le fun c o nc e => ?_) mv2) hB3 hk3
    exact off c o (fun z => nc (by rw [z]; exact List.mem_cons_self)) e
end
section
variable {P : Program} {w : World} {κ : Type} [DecidableEq κ] {most : Nat} {El : Value → κ → Prop} {B : Heap → List κ → Prop} {A : Around} {E : Value → Shared → Prop} {s : Shared}
/-- the new set's object -/
@[reducible] def emptySet (w : World) : Obj := { cls := .type "set", dict := none, data := .set #[] 0 (.fresh 0 0 (!w.params.followText "set-order")) }
/-- set.__init__ behind the new object -/
theorem init_bag {l : Addr} {its : Array Value} {T : String} {o : Obj} {n0 : Nat} {Z : PySem.Fin → Shared → Prop} (hT : T = "list" ∨ T = "tuple") (hh : A.handled = none) (ho : s.heap.get? l = some o) (hc : o.cls = .type T) (hd : o.data = .seq its n0) (ks : List κ) (hks : ks.length = its.size)
    (hm : its.size ≤ most) (hel : ∀ (i : Nat) (v : Value), its[i]? = some v → ∃ k, ks[i]? = some k ∧ El v k) (ad : Adds P w s.heap s.heap.objs.size most El B) (hu : A.in1.units < cLine) (new : ∀ h', h'.get? s.heap.objs.size = some (emptySet w) → B h' [])
    (fin : ∀ (h' : Heap) (tk : Nat), B h' (dd ks) → (∀ b o, s.heap.get? b = some o → h'.get? b = some o) → Z (.done (.ret .none)) { s with heap := h', toks := tk }) :
    wpAny (model P w) A (Builtin.«set.__init__» ⟨[.ref s.heap.objs.size, .ref l], []⟩) Z E { s with heap := s.heap.push (emptySet w) } := by
  obtain ⟨ocls, odict, odata, oslots⟩ := o
  dsimp only at hc hd
  subst hc
  subst hd
  have none_of : ∀ b, s.heap.objs.size ≤ b → s.heap.get? b = none := fun b hb => by
    cases q : s.heap.get? b with
    | none => rfl
    | some o => exact absurd (Nat.lt_of_lt_of_le (Heap.lt_size q) hb) (Nat.lt_irrefl _)
  have ho' : (s.heap.push (emptySet w)).get? l = some ⟨.type T, odict, .seq its n0, oslots⟩ := Heap.get?_push_of_some _ ho
  have ll : l < s.heap.objs.size := Heap.lt_size ho
  have z1 : (s.heap.push (emptySet w)).objs.size = s.heap.objs.size + 1 := Heap.size_push ..
  have nI : l ≠ (s.heap.push (emptySet w)).objs.size := by rw [z1]; exact Nat.ne_of_lt (Nat.lt_succ_of_lt ll)
  have nS : s.heap.objs.size ∉ [(s.heap.push (emptySet w)).objs.size, l] := by
    rw [z1]
    simp only [List.mem_cons, List.not_mem_nil, or_false, not_or]
    exact ⟨Nat.ne_of_lt (Nat.lt_succ_self _), Nat.ne_of_gt ll⟩
  have nw : ∀ b ∈ [(s.heap.push (emptySet w)).objs.size], s.heap.get? b = none := fun b hb => none_of b (by rw [List.mem_singleton.mp hb, z1]; exact Nat.le_succ _)
  have hh2 : A.in1.handled = none := by simp [hh]
  have kept0 : ∀ (x : Obj) b o, s.heap.get? b = some o → ((s.heap.push (emptySet w)).push x).get? b = some o := fun x b o e => Heap.get?_push_of_some _ (Heap.get?_push_of_some _ e)
  have set0 : ∀ x : Obj, ((s.heap.push (emptySet w)).push x).get? s.heap.objs.size = some (emptySet w) := fun x => Heap.get?_push_of_some _ (Heap.get?_push_size _ rfl)
  have last : ∀ s' : Shared, s'.gens = s.gens → s'.drawn = s.drawn → s'.os = s.os → B s'.heap (dd ks) → (∀ b o, s.heap.get? b = some o → s'.heap.get? b = some o) → wpAny (model P w) A (pure ()) (fun a s' => wpAny (model P w) A ((fun _ => ret Value.none) a) Z E s') E s' := fun s' e1 e2 e3 hB hk => by
    obtain ⟨h', g, d', tk, os⟩ := s'
    dsimp only at e1 e2 e3
    subst e1 e2 e3
    exact wpAny_pure (wpAny_pure (fin h' tk hB hk))
  rcases hT with rfl | rfl
  · have f1 := F.sub_list_set
    have f2 := F.sub_list_frozenset
    have f3 : (Value.type "list" == Value.type "dict") = false := by decide
    have hl1 : (s.heap.push (emptySet w)).IsList l its := ⟨_, ho', rfl, n0, rfl⟩
    unfold Builtin.«set.__init__» noKeywords Builtin.Frozenset.updateFrom
    generalize gI : pyIter = iterOf
    wp_walk
    subst gI
    refine wpAny_pyIter_list hl1 (wpAny_bind (wpAny_runValue ?_))
    refine set_turns ad ((Walks.list hh2 _ l nI its).toS) nS nw (none_of _ (Nat.le_refl _)) ks hks hm hu (fun i v h => hel i v h) its.size 0 _ (Nat.zero_add _) ?st ?b0 ?k0 fun s' mv hB hk => ?_
    case st => exact ⟨⟨_, Heap.get?_push_size _ rfl, rfl, rfl⟩, hl1.push _⟩
    case b0 => exact new _ (set0 _)
    case k0 => exact kept0 _
    exact last s' mv.gens mv.drawn mv.os hB hk
  · have f1 := F.sub_tuple_set
    have f2 := F.sub_tuple_frozenset
    have f3 : (Value.type "tuple" == Value.type "dict") = false := by decide
    have hl1 : (s.heap.push (emptySet w)).IsTuple l its := ⟨_, ho', rfl, n0, rfl⟩
    unfold Builtin.«set.__init__» noKeywords Builtin.Frozenset.updateFrom
    generalize gI : pyIter = iterOf
    wp_walk
    subst gI
    refine wpAny_pyIter_tuple hl1 (wpAny_bind (wpAny_runValue ?_))
    refine set_turns ad ((Walks.tuple hh2 _ l nI its).toS) nS nw (none_of _ (Nat.le_refl _)) ks hks hm hu (fun i v h => hel i v h) its.size 0 _ (Nat.zero_add _) ?st ?b0 ?k0 fun s' mv hB hk => ?_
    case st => exact ⟨⟨_, Heap.get?_push_size _ rfl, rfl, rfl⟩, hl1.push _⟩
    case b0 => exact new _ (set0 _)
    case k0 => exact kept0 _
    exact last s' mv.gens mv.drawn mv.os hB hk
/-- set(x), x a list or a tuple -/
theorem call_bag {l : Addr} {its : Array Value} {T : String} {o : Obj} {n0 : Nat} {Q : Value → Shared → Prop} (hT : T = "list" ∨ T = "tuple") (hh : A.handled = none) (ho : s.heap.get? l = some o) (hc : o.cls = .type T) (hd : o.data = .seq its n0) (ks : List κ) (hks : ks.length = its.size)
    (hm : its.size ≤ most) (hel : ∀ (i : Nat) (v : Value), its[i]? = some v → ∃ k, ks[i]? = some k ∧ El v k) (ad : Adds P w s.heap s.heap.objs.size most El B) (hu : A.units + 3 < cLine) (new : ∀ h', h'.get? s.heap.objs.size = some (emptySet w) → B h' [])
    (fin : ∀ (h' : Heap) (tk : Nat), B h' (dd ks) → (∀ b o, s.heap.get? b = some o → h'.get? b = some o) → Q (.ref s.heap.objs.size) { s with heap := h', toks := tk }) :
    wpAny (model P w) A (call (.type "set") [.ref l]) Q E s := by
  obtain ⟨c, tl, cm⟩ := F.called_set.mro
  have cmade := F.called_set.made
  have cself := F.called_set.sub
  have cnot := F.called_set.notType
  have ccan := F.called_set.canCreate
  have ccall := F.typeCall_set_1 (.ref l)
  refine wpAny_call (codeAny_of_tree ?_)
  show wpAny (model P w) A.in1 (callAny (.type "set") ⟨[.ref l], []⟩) _ _ s
  refine wpAny_pure ⟨Code.quiet_builtin _ (by decide +kernel), codeAny_builtin F.entry_type_call ?_⟩
  rw [Around.under_plain (weight_type_call_type "set" [.ref l] []) rfl]
  repeat (any_goals (first | assumption | wp_step))
  have made : ∀ (A' : Around) (E' : Value → Shared → Prop), codeAny (model P w) A' (.call (.builtin "set.__new__") ⟨[.type "set", .ref l], []⟩) (wants (fun v s' => v = .ref s.heap.objs.size ∧ s' = { s with heap := s.heap.push (emptySet w) }) E') s := fun A' E' => code_set_led1 (.ref l) ⟨rfl, rfl⟩
  refine codeAny_mono (made _ E) fun r s1 hr => ?_
  rcases r with e | fl
  · exact hr
  · cases fl with
    | ret v =>
      obtain ⟨rfl, rfl⟩ := hr
      have ty : Shared.TypeIs { s with heap := s.heap.push (emptySet w) } (.ref s.heap.objs.size) "set" := ⟨_, Heap.get?_push_size _ rfl, rfl⟩
      have ilook := F.called_set.init.lookup
      have ibind := F.called_set.init.bind (.ref s.heap.objs.size)
      repeat (any_goals (first | assumption | wp_step))
      have filled : ∀ (A' : Around) (E' : Value → Shared → Prop), A'.handled = none → A'.in1.in1.units < cLine → codeAny (model P w) A' (.call (.builtin "set.__init__") ⟨[.ref s.heap.objs.size, .ref l], []⟩)
          (wants (fun v s' => v = .none ∧ ∃ h' tk, s' = { s with heap := h', toks := tk } ∧ B h' (dd ks) ∧ ∀ b o, s.heap.get? b = some o → h'.get? b = some o) E') { s with heap := s.heap.push (emptySet w) } := fun A' E' ha hb =>
        codeAny_call_builtin F.called_set.init.plain F.entry_set_init (check_set_init_1 ty (init_bag hT (by simp [ha]) ho hc hd ks hks hm hel ad hb new fun h' tk hB hk => ⟨rfl, h', tk, rfl, hB, hk⟩))
      refine codeAny_mono (filled _ E (by simp [hh]) ?_) fun r2 s2 hr2 => ?_
      · exact hu
      · rcases r2 with e | fl2
        · exact hr2
        · cases fl2 with
          | ret v =>
            obtain ⟨rfl, h', tk, rfl, hB, hk⟩ := hr2
            repeat (any_goals (first | assumption | wp_step))
            exact fin _ _ hB hk
          | _ => exact hr2.elim
    | _ => exact hr.elim
end
end PL

/-! PLS2: sets of tuples of texts: the table. -/
namespace PL
open PySem PySem.Spec PyProof.Rows L2
variable [TheW]

section
variable {P : Program} {w : World} {A : Around} {E : Value → Shared → Prop} {s : Shared}
/-- the tuple at b holds the texts k -/
abbrev Tx (P : Program) (w : World) (h : Heap) (b : Addr) (k : List Str) : Prop := IsTupleKey (PySem.strKind P w) h k b
abbrev hx (P : Program) (w : World) (k : List Str) : Int := tupleKeyHash (PySem.strKind P w) k
theorem tx_texts {k : List Str} {vs : List Value} (h : ItemsAre (PySem.strKind P w) k vs) : ∀ v ∈ vs, ∃ z t, v = Value.str z t := by
  induction h with
  | nil => exact fun v hv => nomatch hv
  | @cons z u ks us hz _ ih =>
    intro v hv
    obtain ⟨t, e⟩ := Value.isStrOf_shape hz
    exact (List.mem_cons.mp hv).elim (fun q => ⟨z, t, q.trans e⟩) (ih v)
/-- a question that every text answers alike, asked along a tuple -/
theorem ask_items {vs : Array Value} {body : Value → Option Bool × PUnit → Sem (ForInStep (Option Bool × PUnit))} {Q : Option Bool × PUnit → Shared → Prop}
    (hv : ∀ v ∈ vs.toList, ∃ z t, v = Value.str z t) (step : ∀ z t r, body (.str z t) r = pure (.yield (none, ⟨⟩))) (h : ∀ r, r.1 = none → Q r s) : wpAny (model P w) A (forIn vs (none, ⟨⟩) body) Q E s := by
  rw [← Array.forIn_toList]
  refine wpAny_forIn_list _ (fun left r s' => (∀ v ∈ left, ∃ z t, v = Value.str z t) ∧ r.1 = none ∧ s' = s) _ (fun v left r s' ⟨h1, h2, h3⟩ => ?_) (fun r s' ⟨_, h2, h3⟩ => by subst h3; exact h r h2) _ _ ⟨hv, rfl, rfl⟩
  obtain ⟨z, t, e⟩ := h1 v List.mem_cons_self
  rw [e, step]
  exact wpAny_pure ⟨fun u hu => h1 u (List.mem_cons_of_mem _ hu), rfl, h3⟩
theorem tx_class {b : Addr} {k : List Str} {Q : Bool → Shared → Prop} (hb : Tx P w s.heap b k) (h : Q false s) : wpAny (model P w) A (ofAClassStatement 8 (.ref b)) Q E s := by
  have ty := hb.typeIs
  obtain ⟨o, items, n, ho, _, hd, hi⟩ := hb
  unfold ofAClassStatement
  refine wpAny_bind (wpAny_typeOf ty ?_)
  have e : (("tuple" : String) == "tuple") = true := by decide
  simp only [e, if_true, Bool.not_true, Bool.false_eq_true, if_false]
  refine wpAny_bind (m := pure true) (wpAny_pure ?_)
  simp only [Bool.not_true, Bool.false_eq_true, if_false]
  refine wpAny_bind (m := seqItems? (.ref b)) (wpAny_seqItems ho hd ?_)
  dsimp only
  refine wpAny_bind (ask_items (tx_texts hi) (fun z t r => by rfl) fun r hr => ?_)
  obtain ⟨r1, r2⟩ := r
  cases hr
  exact wpAny_pure h
theorem tx_byv {b : Addr} {k : List Str} {Q : Bool → Shared → Prop} (hb : Tx P w s.heap b k) (h : ∀ v, Q v s) : wpAny (model P w) A (hashByValue 8 (.ref b)) Q E s := by
  have ty := hb.typeIs
  obtain ⟨o, items, n, ho, _, hd, hi⟩ := hb
  unfold hashByValue
  refine wpAny_bind (wpAny_specialOf ty F.slot_tuple_hash.lookup ?_)
  refine wpAny_bind (m := seqItems? (.ref b)) (wpAny_seqItems ho hd ?_)
  dsimp only
  refine wpAny_bind ?_
  show wpAny (model P w) A (forIn items _ _) _ E s
  rw [← Array.forIn_toList]
  refine wpAny_forIn_list _ (fun left r s' => (∀ v ∈ left, ∃ z t, v = Value.str z t) ∧ s' = s) _ (fun v left r s' ⟨h1, h3⟩ => ?_) (fun r s' ⟨_, h3⟩ => by subst h3; obtain ⟨r1, r2⟩ := r; cases r1 <;> exact wpAny_pure (h _)) _ _ ⟨tx_texts hi, rfl⟩
  obtain ⟨z, t, e⟩ := h1 v List.mem_cons_self
  subst e
  subst h3
  have no : hashByValue 7 (.str z t) = pure false := rfl
  rw [no]
  exact wpAny_bind (wpAny_pure (wp_if_pos rfl (wpAny_pure (wpAny_pure (h _)))))
/-- a search among such tuples can't be seen -/
theorem tx_unseen {b : Addr} {k : List Str} {Q : Bool → Shared → Prop} (hb : Tx P w s.heap b k) {ys : List Value} (hy : ∀ y ∈ ys, ∃ c l, y = Value.ref c ∧ Tx P w s.heap c l) (h : Q false s) : wpAny (model P w) A (searchCouldBeSeen (.ref b) ys) Q E s := by
  unfold searchCouldBeSeen
  refine wpAny_bind (wpAny_forIn_list _ (fun left r s' => (∀ y ∈ left, ∃ c l, y = Value.ref c ∧ Tx P w s.heap c l) ∧ r.1 = none ∧ s' = s) _ (fun v left r s' ⟨h1, h2, h3⟩ => ?_) (fun r s' ⟨_, h2, h3⟩ => ?_) _ _ ⟨hy, rfl, rfl⟩)
  · subst h3
    obtain ⟨c, l, rfl, hc⟩ := h1 v List.mem_cons_self
    have more : ∀ y ∈ left, ∃ c l, y = Value.ref c ∧ Tx P w s'.heap c l := fun u hu => h1 u (List.mem_cons_of_mem _ hu)
    dsimp only
    by_cases same : (b == c || (carriedByValue (.ref b) && carriedByValue (.ref c))) = true
    · exact wp_if_pos same (wpAny_pure ⟨more, rfl, rfl⟩)
    · refine wp_if_neg same (wpAny_bind (wpAny_eqIsQuiet_tuple hb ?_))
      refine wp_if_neg (by decide) (wpAny_bind (wpAny_eqIsQuiet_tuple hc ?_))
      refine wp_if_neg (by decide) (wpAny_bind (tx_class hb ?_))
      refine wp_if_neg (by decide) (wpAny_bind (tx_class hc ?_))
      exact wp_if_neg (by decide) (wpAny_pure ⟨more, rfl, rfl⟩)
  · obtain ⟨r1, r2⟩ := r
    cases h2
    subst h3
    exact wpAny_pure h
theorem tx_keep {h h' : Heap} {b : Addr} {k : List Str} (x : Tx P w h b k) (e : ∀ o, h.get? b = some o → h'.get? b = some o) : Tx P w h' b k := by
  obtain ⟨o, items, n, ho, r⟩ := x
  exact ⟨o, items, n, e o ho, r⟩
theorem tx_noset {h : Heap} {a b : Addr} {k : List Str} {o : Obj} {es : Array (Int × Value)} {ep : Nat} {t : SetTable} (x : Tx P w h b k) (ho : h.get? a = some o) (hd : o.data = .set es ep t) : b ≠ a := by
  rintro rfl
  obtain ⟨o', items, n, ho', _, hd', _⟩ := x
  rw [ho] at ho'
  cases ho'
  rw [hd] at hd'
  cases hd'

/-! ### the table -/
/-- a set's entries: address and texts of each, in the order of the slots -/
structure Tab (P : Program) (w : World) (h : Heap) (a : Addr) (L : List (Addr × List Str)) (es : Array (Int × Value)) (t : SetTable) : Prop where
  there : ∃ o ep, h.get? a = some o ∧ o.ExactSet ∧ o.data = .set es ep t
  list : es.toList = L.map fun p => (hx P w p.2, Value.ref p.1)
  ok : TabOk t (L.map fun p => hx P w p.2)
  one : (L.map (·.2)).Nodup
  good : ∀ p ∈ L, Tx P w h p.1 p.2
  wide : L.length * 5 < t.mask * 3
  few : L.length < 64
variable {a : Addr} {L : List (Addr × List Str)} {es : Array (Int × Value)} {t : SetTable}
theorem list_len {es : Array (Int × Value)} (h : es.toList = L.map fun p => (hx P w p.2, Value.ref p.1)) : es.size = L.length := by
  rw [← Array.length_toList, h, List.length_map]
theorem list_at {es : Array (Int × Value)} (h : es.toList = L.map fun p => (hx P w p.2, Value.ref p.1)) {i : Nat} {p : Addr × List Str} (e : L[i]? = some p) : es[i]? = some (hx P w p.2, Value.ref p.1) := by
  rw [← Array.getElem?_toList, h, List.getElem?_map, e]
  rfl
theorem Tab.places {h : Heap} (T : Tab P w h a L es t) : t.place.toList.length = L.length := by
  rw [Array.length_toList, T.ok.sz, List.length_map]
theorem fits_of {es : Array (Int × Value)} (h1 : t.place.size = es.size) (h2 : t.dummies = #[]) (h3 : es.size ≤ t.mask) : t.fits es.size = true := by
  unfold SetTable.fits SetTable.fill
  rw [h2, Bool.and_eq_true, beq_iff_eq, decide_eq_true_eq]
  exact ⟨h1, by rw [h1]; exact h3⟩
theorem Tab.fit {h : Heap} (T : Tab P w h a L es t) : t.fits es.size = true := by
  have h1 := T.places
  have h2 := T.wide
  have h3 := list_len T.list
  rw [Array.length_toList] at h1
  exact fits_of (by omega) T.ok.dm (by omega)
theorem Tab.sound (T : Tab P w s.heap a L es t) : ¬ t.gaveWay = true := by
  unfold SetTable.gaveWay
  rw [mask_odd T.ok.mok]
  decide
/-- how far the way of k goes: N steps over full slots, then an empty one -/
structure Goes (t : SetTable) (q : Int) (N : Nat) : Prop where
  free : way t.mask q N ∉ t.place.toList
  full : ∀ c, c < N → way t.mask q c ∈ t.place.toList
/-- the c-th stand on the way -/
abbrev stand (t : SetTable) (q : Int) (c : Nat) : SetTable.Probe := nth t.mask (runAt t.mask (SetTable.bits q % (t.mask + 1)) (SetTable.bits q)) c
theorem stand_dummy (t : SetTable) (q : Int) (c : Nat) : (stand t q c).dummy = none := by
  have go : ∀ (n : Nat) (p : SetTable.Probe), p.dummy = none → (nth t.mask p n).dummy = none := fun n => by
    induction n with
    | zero => exact fun p h => h
    | succ n ih =>
      intro p h
      refine ih (adv t.mask p) ?_
      unfold adv
      split <;> exact h
  exact go c _ rfl
theorem stand_add (t : SetTable) (q : Int) (c d : Nat) : nth t.mask (stand t q c) d = stand t q (c + d) := (nth_add t.mask c _ d).symm
theorem Tab.seek (T : Tab P w s.heap a L es t) {x : Addr} {k : List Str} (hk : Tx P w s.heap x k) (hu : A.units < cLine) {N : Nat} (g : Goes t (hx P w k) N) (hN : N < 10 * SetTable.turns t.mask) {Q : SetFound → Shared → Prop} (yes : k ∈ L.map (·.2) → Q (.there none) s)
    (no : k ∉ L.map (·.2) → Q (.free (way t.mask (hx P w k) N) false) s) : ∀ (f c : Nat) (st : Option SetTable.Probe), st.getD (t.probeStart (hx P w k)) = stand t (hx P w k) c → c ≤ N → N < c + f →
      (∀ (i : Nat) (p : Addr × List Str), L[i]? = some p → p.2 = k → ∃ d, c ≤ d ∧ d < N ∧ t.place.toList[i]? = some (way t.mask (hx P w k) d)) → wpAny (model P w) A (setSearchFrom a (.ref x) (hx P w k) true f st) Q E s := by
  obtain ⟨o, ep, ho, hex, hd⟩ := T.there
  intro f
  induction f with
  | zero => intro c st _ h1 h2; omega
  | succ f ih =>
    intro c st e0 h1 h2 ahead
    rw [setSearchFrom_succ]
    refine wpAny_bind (wpAny_setState_of ho hd T.fit ?_)
    refine wp_if_neg T.sound ?_
    have hashes : ∀ (i : Nat) (p : Addr × List Str), L[i]? = some p → (es[i]?.map (·.1)).getD 0 = hx P w p.2 := fun i p e => by rw [list_at T.list e]; rfl
    have at_ : ∀ d, (nth t.mask (stand t (hx P w k) c) d).j = way t.mask (hx P w k) (c + d) := fun d => congrArg SetTable.Probe.j (stand_add t _ c d)
    -- an entry of k's own is not passed by
    have passed : ∀ (d0 : Nat), (∀ d i : Nat, d < d0 → t.place.toList[i]? = some (nth t.mask (stand t (hx P w k) c) d).j → (es[i]?.map (·.1)).getD 0 ≠ hx P w k) → ∀ (i : Nat) (p : Addr × List Str), L[i]? = some p → p.2 = k → ∃ d, c + d0 ≤ d ∧ d < N ∧ t.place.toList[i]? = some (way t.mask (hx P w k) d) := fun d0 none_ i p e ek => by
      obtain ⟨d, a1, a2, a3⟩ := ahead i p e ek
      refine ⟨d, ?_, a2, a3⟩
      refine Classical.byContradiction fun z => none_ (d - c) i (by omega) (by rw [at_, show c + (d - c) = d by omega]; exact a3) ?_
      rw [hashes i p e, ek]
    rcases go_spec t T.ok.ris T.ok.dm (fun i => (es[i]?.map (·.1)).getD 0) (hx P w k) (10 * SetTable.turns t.mask) (N - c) (stand t (hx P w k) c) (stand_dummy t _ c) (by omega) (fun d hd => by rw [at_]; exact g.full _ (by omega)) (by rw [at_, show c + (N - c) = N by omega]; exact g.free) with ⟨d, i, d1, d2, d3, d4, d5⟩ | ⟨d4, d5⟩
    · rw [at_] at d2 d5
      rw [stand_add] at d5
      have met : t.probe (fun i => (es[i]?.map (·.1)).getD 0) (hx P w k) (st.getD (t.probeStart (hx P w k))) = some (.candidate (way t.mask (hx P w k) (c + d)) i (stand t (hx P w k) (c + (d + 1)))) := by rw [e0]; exact d5
      rw [met]
      have il : i < L.length := by
        rw [← T.places]
        exact (List.getElem?_eq_some_iff.mp d2).1
      obtain ⟨p, hp⟩ : ∃ p, L[i]? = some p := ⟨_, List.getElem?_eq_getElem il⟩
      have live := slot_live T.ok.ris d2
      have rest : wpAny (model P w) A (searchRest a (.ref x) (hx P w k) true f es t (way t.mask (hx P w k) (c + d)) i (stand t (hx P w k) (c + (d + 1)))) Q E s := by
        unfold searchRest
        rw [list_at T.list hp]
        refine wpAny_bind (wpAny_holding (wpAny_eqBool_tuple hu (T.good p (List.mem_of_getElem? hp)) hk (wpAny_bind (wpAny_setState_of ho hd T.fit ?_))))
        by_cases ek : p.2 = k
        · exact wp_if_pos (by simp [ek]) (wpAny_pure (yes (List.mem_map.mpr ⟨p, List.mem_of_getElem? hp, ek⟩)))
        · refine wp_if_neg (by simp [ek]) ?_
          rw [sameMem]
          simp only [if_true, live, list_at T.list hp]
          refine wpAny_bind (wpAny_isSame_ref_self (wpAny_bind (wpAny_pure ?_)))
          simp only [if_true]
          refine wp_if_neg (by simp [ek]) (ih (c + (d + 1)) _ rfl (by omega) (by omega) fun i0 p0 q1 q2 => ?_)
          obtain ⟨d', b1, b2, b3⟩ := passed d d4 i0 p0 q1 q2
          refine ⟨d', ?_, b2, b3⟩
          by_cases same : d' = c + d
          · exfalso
            rw [same] at b3
            have live2 := slot_live T.ok.ris b3
            rw [live] at live2
            cases live2
            rw [hp] at q1
            cases q1
            exact ek q2
          · omega
      by_cases led : t.led = true
      · exact wp_if_neg (by simp [led]) rest
      · refine wp_if_pos (by simp [led]) (wpAny_bind (tx_unseen hk (fun y hy => ?_) (wp_if_neg (by decide) rest)))
        obtain ⟨r, hr, rfl⟩ := List.mem_map.mp hy
        have hr2 : r ∈ es.toList := by
          have : r ∈ es ∧ r.1 = hx P w k := by simpa using hr
          exact Array.mem_toList_iff.mpr this.1
        rw [T.list] at hr2
        obtain ⟨p2, g1, rfl⟩ := List.mem_map.mp hr2
        exact ⟨p2.1, p2.2, rfl, T.good p2 g1⟩
    · rw [at_, show c + (N - c) = N by omega] at d5
      have met : t.probe (fun i => (es[i]?.map (·.1)).getD 0) (hx P w k) (st.getD (t.probeStart (hx P w k))) = some (.empty (way t.mask (hx P w k) N) none) := by rw [e0]; exact d5
      rw [met]
      refine wpAny_pure (no fun hm => ?_)
      obtain ⟨p0, m1, m2⟩ := List.mem_map.mp hm
      obtain ⟨i0, l0, m3⟩ := List.getElem_of_mem m1
      obtain ⟨d', b1, b2, _⟩ := passed (N - c) d4 i0 p0 (by rw [List.getElem?_eq_getElem l0, m3]) m2
      omega
end
end PL

/-! PLS3: sets of tuples of texts: taking in; len(set(x)). -/
namespace PL
open PySem PySem.Spec PyProof.Rows L2
variable [TheW]
section
variable {P : Program} {w : World} {A : Around} {E : Value → Shared → Prop} {s : Shared} {a : Addr} {L : List (Addr × List Str)} {es : Array (Int × Value)} {t : SetTable}
theorem Tab.search (T : Tab P w s.heap a L es t) {x : Addr} {k : List Str} (hk : Tx P w s.heap x k) (hu : A.units < cLine) {Q : SetFound → Shared → Prop} (yes : k ∈ L.map (·.2) → Q (.there none) s)
    (no : ∀ N, k ∉ L.map (·.2) → Goes t (hx P w k) N → Q (.free (way t.mask (hx P w k) N) false) s) : wpAny (model P w) A (setSearch a (.ref x) (hx P w k) true) Q E s := by
  have wd := T.wide
  obtain ⟨N, n1, n2, n3⟩ := T.ok.first (by rw [List.length_map]; omega) (hx P w k)
  have small : N < 100000 := by
    have : SetTable.turns t.mask ≤ 142 := by
      unfold SetTable.turns
      rcases T.ok.mok with e | e | e <;> omega
    omega
  unfold setSearch
  refine T.seek hk hu ⟨n2, n3⟩ n1 yes (fun z => no N z ⟨n2, n3⟩) 100000 0 none rfl (Nat.zero_le _) (by omega) fun i p hp ek => ?_
  have il : i < t.place.toList.length := by
    rw [T.places]
    exact (List.getElem?_eq_some_iff.mp hp).1
  obtain ⟨d, d1, d2⟩ := T.ok.before (h := hx P w k) n2 (by rw [List.getElem?_map, hp, ← ek]; rfl) (List.getElem?_eq_getElem il)
  exact ⟨d, Nat.zero_le _, d1, by rw [List.getElem?_eq_getElem il, d2]⟩
/-- the entries of a table laid anew -/
theorem reorder {order : Array Nat} (hl : es.toList = L.map fun p => (hx P w p.2, Value.ref p.1)) (hp : order.toList.Perm (List.range L.length)) :
    ∃ L2 : List (Addr × List Str), (order.filterMap (es[·]?)).toList = (L2.map fun p => (hx P w p.2, Value.ref p.1)) ∧ L2.Perm L ∧ (L2.map fun p => hx P w p.2) = order.toList.map fun i => (es.map (·.1)).getD i 0 := by
  have pick : ∀ l : List Nat, (∀ i ∈ l, i < L.length) → l.filterMap (fun i => es[i]?) = ((l.filterMap fun i => L[i]?).map fun p => (hx P w p.2, Value.ref p.1)) ∧ ((l.filterMap fun i => L[i]?).map fun p => hx P w p.2) = l.map fun i => (es.map (·.1)).getD i 0 := by
    intro l
    induction l with
    | nil => exact fun _ => ⟨rfl, rfl⟩
    | cons i l ih =>
      intro hi
      obtain ⟨h1, h2⟩ := ih fun j hj => hi j (List.mem_cons_of_mem _ hj)
      obtain ⟨p, e⟩ : ∃ p, L[i]? = some p := ⟨_, List.getElem?_eq_getElem (hi i List.mem_cons_self)⟩
      have e2 := list_at hl e
      rw [List.filterMap_cons_some e, List.filterMap_cons_some e2, h1]
      refine ⟨rfl, ?_⟩
      rw [List.map_cons, List.map_cons, h2]
      have e3 : (es.map (·.1))[i]? = some (hx P w p.2) := by
        rw [Array.getElem?_map, e2]
        rfl
      rw [Array.getD_eq_getD_getElem?, e3]
      rfl
  have all : ∀ n, n ≤ L.length → (List.range n).filterMap (fun i => L[i]?) = L.take n := by
    intro n
    induction n with
    | zero => exact fun _ => rfl
    | succ n ih =>
      intro hn
      have e := List.getElem?_eq_getElem (l := L) (i := n) hn
      rw [List.range_succ, List.filterMap_append, ih (by omega), List.filterMap_cons_some e, List.take_succ, e]
      rfl
  obtain ⟨h1, h2⟩ := pick order.toList fun i hi => List.mem_range.mp (hp.mem_iff.mp hi)
  refine ⟨_, by simpa using h1, ?_, h2⟩
  have pm := hp.filterMap fun i => L[i]?
  rw [all L.length (Nat.le_refl _), List.take_length] at pm
  exact pm
/-- the table grows -/
theorem grow_tab {o : Obj} {ep : Nat} (ho : s.heap.get? a = some o) (hex : o.ExactSet) (hd : o.data = .set es ep t) (hl : es.toList = L.map fun p => (hx P w p.2, Value.ref p.1)) (hf : t.fits es.size = true) (hone : (L.map (·.2)).Nodup) (hgood : ∀ p ∈ L, Tx P w s.heap p.1 p.2) (few : L.length < 64) {wanted M : Nat}
    (hw : SetTable.sizeAbove wanted - 1 = M) (hM : MaskOk M) (h128 : SetTable.sizeAbove wanted ≤ 128) (hn : L.length * 5 < M * 3) {Q : Unit → Shared → Prop}
    (k : ∀ h' L' es' t', Heap.SameBut a s.heap h' → Tab P w h' a L' es' t' → L'.Perm L → Q () { s with heap := h' }) : wpAny (model P w) A (setRelay a wanted) Q E s := by
  have sz := list_len hl
  obtain ⟨t', order, e1, e2, e3, e4, _⟩ := relaid_ok t (hs := es.map (·.1)) hw hM (by rw [Array.size_map, sz]; omega)
  rw [Array.size_map, sz] at e2
  obtain ⟨L2, g1, g2, g3⟩ := reorder hl e2
  rw [← g3] at e3
  have sz2 := list_len g1
  rw [g2.length_eq, ← sz] at sz2
  rw [setRelay_eq]
  refine wpAny_bind (wpAny_setState_of ho hd hf ?_)
  refine wp_if_neg (by rw [sizeLine_eq]; omega) ?_
  rw [e1]
  refine wpAny_bind (wp_if_neg (by rw [sz2]; simp) (wpAny_pure ?_))
  have sb : Heap.SameBut a s.heap (s.heap.update a (Obj.putSet (order.filterMap (es[·]?)) t')) := Heap.SameBut.update ..
  refine wpAny_storeSet_of ho hd (k _ L2 _ t' sb ⟨⟨_, ep + 1, store_at ho hd, ⟨hex.1, hex.2.1, hex.2.2⟩, rfl⟩, g1, e3, (g2.map (·.2)).nodup_iff.mpr hone, fun p hp => ?_, by rw [g2.length_eq, e4]; exact hn, by rw [g2.length_eq]; exact few⟩ g2) (by rw [sz2, sz, sizeLine_eq]; omega)
  have good := hgood p (g2.mem_iff.mp hp)
  exact tx_keep good fun o' e => (sb.2 p.1 (tx_noset good ho hd)).trans e
theorem tabOk_plain {hs : List Int} {b : Bool} (T : TabOk t hs) : TabOk { t with plain := b } hs := ⟨T.ris, T.dm, T.sz, T.mok, T.bd, T.reach⟩
/-- a tuple is taken in -/
theorem Tab.take_in (T : Tab P w s.heap a L es t) {x : Addr} {k : List Str} (hk : Tx P w s.heap x k) (hu : A.units < cLine) (few : L.length + 1 < 64) {Q : Bool → Shared → Prop}
    (fin : ∀ b h' L' es' t', Heap.SameBut a s.heap h' → Tab P w h' a L' es' t' → (k ∈ L.map (·.2) → L' = L) → (k ∉ L.map (·.2) → L'.Perm ((x, k) :: L)) → Q b { s with heap := h' }) : wpAny (model P w) A (setAddHashed a (.ref x) (hx P w k)) Q E s := by
  obtain ⟨o, ep, ho, hex, hd⟩ := T.there
  have sz := list_len T.list
  have wd := T.wide
  unfold setAddHashed
  refine wpAny_holding ?_
  rw [show (100000 : Nat) = 99999 + 1 from rfl, setAddHashedIn_succ]
  refine wpAny_bind (wpAny_setState_of ho hd T.fit (wp_if_neg (by simp [byScan, Value.scannable]) ?_))
  refine wpAny_bind (T.search hk hu (fun yes => wpAny_pure (fin false s.heap L es t (Heap.SameBut.refl a s.heap) T (fun _ => rfl) fun z => absurd yes z)) fun N new g => ?_)
  refine wpAny_bind (wpAny_setState_of ho hd T.fit ?_)
  dsimp only
  obtain ⟨p1, p2, p3, p4, _, _, _, _, p9⟩ := T.ok.put g.free g.full
  generalize hpt : t.put (way t.mask (hx P w k) N) = pt at p1 p3 p4 p9 ⊢
  obtain ⟨t1, at1⟩ := pt
  dsimp only at p1 p3 p4 p9 ⊢
  subst p1
  generalize SetTable.below t.place (way t.mask (hx P w k) N) = j at p2 p3 ⊢
  have pm := put_perm L j (x, k)
  have eL : (SetTable.insertAt es j (hx P w k, Value.ref x)).toList = ((L.take j ++ (x, k) :: L.drop j).map fun p => (hx P w p.2, Value.ref p.1)) := by
    rw [SetTable.toList_insertAt, T.list, List.map_append, List.map_cons, List.map_take, List.map_drop]
  have eH : (L.map fun p => hx P w p.2).take j ++ hx P w k :: (L.map fun p => hx P w p.2).drop j = (L.take j ++ (x, k) :: L.drop j).map fun p => hx P w p.2 := by
    rw [List.map_append, List.map_cons, List.map_take, List.map_drop]
  rw [eH] at p3
  have one1 : ((L.take j ++ (x, k) :: L.drop j).map (·.2)).Nodup := (pm.map (·.2)).nodup_iff.mpr (List.nodup_cons.mpr ⟨new, T.one⟩)
  have len1 : (L.take j ++ (x, k) :: L.drop j).length = L.length + 1 := pm.length_eq
  generalize L.take j ++ (x, k) :: L.drop j = L1 at pm eL p3 one1 len1
  have sz1 := list_len eL
  generalize SetTable.insertAt es j (hx P w k, Value.ref x) = es1 at eL sz1 ⊢
  -- whatever its mark says
  have go : ∀ t2 : SetTable, (∃ b, t2 = { t1 with plain := b }) → wpAny (model P w) A (do
      storeSet a es1 t2
      if (!false && t2.tooFull) = true then do
        setRelay a (SetTable.grown (es.size + 1))
        pure true
      else pure true) Q E s := by
    rintro t2 ⟨b, rfl⟩
    have sb : Heap.SameBut a s.heap (s.heap.update a (Obj.putSet es1 { t1 with plain := b })) := Heap.SameBut.update ..
    have ho1 := store_at (es' := es1) (t' := { t1 with plain := b }) ho hd
    refine wpAny_bind (wpAny_storeSet_of ho hd ?_ (by rw [sz1, len1, sizeLine_eq]; omega))
    generalize s.heap.update a (Obj.putSet es1 { t1 with plain := b }) = h1 at sb ho1 ⊢
    have good1 : ∀ p ∈ L1, Tx P w h1 p.1 p.2 := fun p hp => by
      have old : Tx P w s.heap p.1 p.2 := by
        rcases List.mem_cons.mp (pm.mem_iff.mp hp) with e | e
        · rw [e]; exact hk
        · exact T.good p e
      exact tx_keep old fun o' e => (sb.2 p.1 (tx_noset old ho hd)).trans e
    have ok1 : TabOk { t1 with plain := b } (L1.map fun p => hx P w p.2) := tabOk_plain p3
    by_cases full : ({ t1 with plain := b } : SetTable).tooFull = true
    · refine wp_if_pos (by simpa using full) (wpAny_bind ?_)
      have h35 : (L.length + 1) * 5 ≥ t1.mask * 3 := by
        unfold SetTable.tooFull at full
        rw [decide_eq_true_eq] at full
        have e9 : ({ t1 with plain := b } : SetTable).fill = L.length + 1 := by
          have : ({ t1 with plain := b } : SetTable).fill = t1.fill := rfl
          rw [this, p9, List.length_map]
        rw [e9] at full
        exact full
      rw [p4] at h35
      have fit1 : ({ t1 with plain := b } : SetTable).fits es1.size = true := fits_of (by
        have := ok1.sz
        rw [List.length_map] at this
        rw [this, sz1]) ok1.dm (by
        show es1.size ≤ t1.mask
        rw [p4, sz1, len1]
        rcases T.ok.mok with e | e | e <;> omega)
      have larger : ∀ M, SetTable.sizeAbove (SetTable.grown (es.size + 1)) - 1 = M → MaskOk M → SetTable.sizeAbove (SetTable.grown (es.size + 1)) ≤ 128 → L1.length * 5 < M * 3 → wpAny (model P w) A (setRelay a (SetTable.grown (es.size + 1))) (fun _ s2 => wpAny (model P w) A (pure true) Q E s2) E { s with heap := h1 } := fun M m1 m2 m3 m4 =>
        grow_tab (s := { s with heap := h1 }) ho1 ⟨hex.1, hex.2.1, hex.2.2⟩ rfl eL fit1 one1 good1 (by rw [len1]; exact few) m1 m2 m3 m4 fun h2 L2 es2 t2 sb2 T2 pm2 => wpAny_pure (fin true h2 L2 es2 t2 (sb.trans sb2) T2 (fun z => absurd z new) fun _ => pm2.trans pm)
      have which : L.length = 4 ∨ L.length = 18 := by
        rcases T.ok.mok with e | e | e
        · rw [e] at h35 wd; omega
        · rw [e] at h35 wd; omega
        · rw [e] at h35 wd; omega
      rcases which with e | e
      · exact larger 31 (by rw [sz, e, size_20]) (.inr (.inl rfl)) (by rw [sz, e, size_20]; decide) (by rw [len1]; omega)
      · exact larger 127 (by rw [sz, e, size_76]) (.inr (.inr rfl)) (by rw [sz, e, size_76]; decide) (by rw [len1]; omega)
    · refine wp_if_neg (by simpa using full) (wpAny_pure (fin true h1 L1 es1 { t1 with plain := b } sb ⟨⟨_, ep + 1, ho1, ⟨hex.1, hex.2.1, hex.2.2⟩, rfl⟩, eL, ok1, one1, good1, ?_, by rw [len1]; exact few⟩ (fun z => absurd z new) fun _ => pm))
      unfold SetTable.tooFull at full
      rw [decide_eq_true_eq] at full
      have e9 : ({ t1 with plain := b } : SetTable).fill = L.length + 1 := by
        have : ({ t1 with plain := b } : SetTable).fill = t1.fill := rfl
        rw [this, p9, List.length_map]
      rw [e9] at full
      rw [len1]
      show (L.length + 1) * 5 < t1.mask * 3
      have : ({ t1 with plain := b } : SetTable).mask = t1.mask := rfl
      omega
  have two : ∀ v : Bool, ∃ b, (if v = true then t1 else { t1 with plain := false }) = { t1 with plain := b } := fun v => by
    cases v
    · exact ⟨false, rfl⟩
    · exact ⟨t1.plain, rfl⟩
  by_cases pl : t1.plain = true
  · exact wp_if_pos pl (wpAny_bind (tx_byv hk fun v => go _ (two v)))
  · exact wp_if_neg pl (wpAny_bind (wpAny_pure (go _ (two true))))
end
end PL

/-! PLS4: len(set(x)). -/
namespace PL
open PySem PySem.Spec PyProof.Rows L2
variable [TheW]
section
variable {P : Program} {w : World} {h0 : Heap} {S : Addr}
/-- a set's object, as len asks it -/
def SizeIs (h : Heap) (S : Addr) (n : Nat) : Prop := ∃ o es ep t, h.get? S = some o ∧ o.ExactSet ∧ o.data = .set es ep t ∧ t.fits es.size = true ∧ es.size = n
def ElS (v : Value) (k : Str) : Prop := ∃ t, v = .str k t
def BagS (P : Program) (w : World) (S : Addr) (h : Heap) (m : List Str) : Prop := h.SetOf (PySem.strKind P w) S (fun k => m.any (· == k)) m.length
theorem addsS : Adds P w h0 S 4000 ElS (BagS P w S) where
  keep := fun h h' m ⟨o, es, ep, t, ho, r⟩ hS _ => ⟨o, es, ep, t, hS o ho, r⟩
  add := fun A E s v k m Q hu hm ⟨t, hv⟩ hB hk fin => by
    subst hv
    unfold setAdd
    refine wpAny_holding (wpAny_bind ((PySem.strKind P w).pyHash (k := k) (strKind_is _ _ _ _) ?_))
    refine wpAny_setAddHashed_of (knd := PySem.strKind P w) (s := { s with toks := s.toks + 1 }) (strKind_is _ _ _ _) rfl hB (by unfold scanBound; omega) fun h' sb hB2 => ?_
    refine fin _ h' _ sb (Nat.le_succ _) (SetOf_congr hB2 (fun x => ?_) ?_)
    · unfold ddS
      by_cases hin : k ∈ m
      · rw [if_pos hin]
        by_cases e : x = k
        · subst e
          simp [hin]
        · simp [e]
      · rw [if_neg hin, List.any_append]
        by_cases e : x = k
        · subst e; simp
        · have e2 : (k == x) = false := beq_eq_false_iff_ne.mpr fun z => e z.symm
          simp [e, e2]
    · unfold ddS
      by_cases hin : k ∈ m
      · rw [if_pos hin, if_pos (by simpa using hin)]
      · rw [if_neg hin, if_neg (by simpa using hin), List.length_append]
        rfl
theorem bagS_new {h' : Heap} (e : h'.get? S = some (emptySet w)) : BagS P w S h' [] := SetOf_congr ((setObjOf_fresh (knd := PySem.strKind P w) _).setOf e (by unfold scanBound; omega)) (fun _ => rfl) rfl
theorem bagS_size {h' : Heap} {m : List Str} (hB : BagS P w S h' m) : SizeIs h' S m.length := by
  obtain ⟨o, es, ep, t, ho, hex, hd, _, _, _, hf, hn⟩ := hB
  exact ⟨o, es, ep, t, ho, hex, hd, hf, hn⟩
/-- .. tuples of texts -/
def ElT (P : Program) (w : World) (h0 : Heap) (v : Value) (k : List Str) : Prop := ∃ b, v = .ref b ∧ Tx P w h0 b k
def BagT (P : Program) (w : World) (h0 : Heap) (S : Addr) (h : Heap) (m : List (List Str)) : Prop := ∃ L es t, Tab P w h S L es t ∧ (∀ p ∈ L, Tx P w h0 p.1 p.2) ∧ (L.map (·.2)).Perm m
theorem addsT (nS : h0.get? S = none) : Adds P w h0 S 63 (ElT P w h0) (BagT P w h0 S) where
  keep := fun h h' m ⟨L, es, t, T, g, pm⟩ hS hk => by
    obtain ⟨o, ep, ho, r⟩ := T.there
    exact ⟨L, es, t, ⟨⟨o, ep, hS o ho, r⟩, T.list, T.ok, T.one, fun p hp => tx_keep (g p hp) fun o e => hk _ o e, T.wide, T.few⟩, g, pm⟩
  add := fun A E s v k m Q hu hm ⟨b, hv, hb⟩ ⟨L, es, t, T, g, pm⟩ hk fin => by
    subst hv
    have lenL : L.length = m.length := by rw [← pm.length_eq, List.length_map]
    have hb' : Tx P w s.heap b k := tx_keep hb fun o e => hk _ o e
    unfold setAdd
    refine wpAny_holding (wpAny_bind (wpAny_pyHash_tuple hu hb' ?_))
    have T' : Tab P w ({ s with toks := s.toks + (k.length + 1) } : Shared).heap S L es t := T
    refine T'.take_in (k := k) (x := b) hb' hu (by omega) fun bb h' L' es' t' sb T2 c1 c2 => ?_
    refine fin bb h' _ sb (Nat.le_add_right _ _) ⟨L', es', t', T2, fun p hp => ?_, ?_⟩
    · by_cases hin : k ∈ L.map (·.2)
      · rw [c1 hin] at hp
        exact g p hp
      · rcases List.mem_cons.mp ((c2 hin).mem_iff.mp hp) with e | e
        · rw [e]; exact hb
        · exact g p e
    · unfold ddS
      by_cases hin : k ∈ L.map (·.2)
      · rw [c1 hin, if_pos (pm.mem_iff.mp hin)]
        exact pm
      · rw [if_neg fun z => hin (pm.mem_iff.mpr z)]
        refine ((c2 hin).map (·.2)).trans ?_
        rw [List.map_cons]
        exact (List.Perm.cons _ pm).trans (List.perm_append_singleton _ _).symm
theorem bagT_new {h' : Heap} (e : h'.get? S = some (emptySet w)) : BagT P w h0 S h' [] :=
  ⟨[], #[], _, ⟨⟨_, 0, e, ⟨rfl, rfl, rfl⟩, rfl⟩, rfl, ⟨List.Pairwise.nil, rfl, rfl, .inl rfl, fun x hx => (by cases hx), fun i h j hi => (by simp at hi)⟩, List.nodup_nil, fun p hp => (by cases hp), by show 0 * 5 < 7 * 3; decide, by show 0 < 64; decide⟩, fun p hp => (by cases hp), .refl _⟩
theorem bagT_size {h' : Heap} {m : List (List Str)} (hB : BagT P w h0 S h' m) : SizeIs h' S m.length := by
  obtain ⟨L, es, t, T, _, pm⟩ := hB
  obtain ⟨o, ep, ho, hex, hd⟩ := T.there
  refine ⟨o, es, ep, t, ho, hex, hd, T.fit, ?_⟩
  rw [list_len T.list, ← pm.length_eq, List.length_map]
end

/-! ### len(set(x)) -/
/-- the texts of a tuple -/
def rowOf : D → Option (List Str)
  | .tuple ds => strsOf ds
  | _ => none
def rowsOfD : List D → Option (List (List Str))
  | [] => some []
  | d :: r => (rowOf d).bind fun k => (rowsOfD r).map (k :: ·)
def gLenSet (d : D) : Option RV := (seqOf d).bind fun ds => match strsOf ds with
  | some ss => if ss.length ≤ 4000 then some (.d (.int (dd ss).length)) else none
  | none => (rowsOfD ds).bind fun ks => if ks.length ≤ 63 then some (.d (.int (dd ks).length)) else none
section
variable {X : Cx} {pins : List (Addr × Obj)} {σ : L2.St} {H : Hp} {s : Shared} {O : Addr → Prop}
theorem items_texts : ∀ {k : List Str} {us : List Value}, Vals (k.map V.str) us → ItemsAre (PySem.strKind X.prog X.w) k us
  | [], _, .nil => .nil
  | z :: k, _, .cons r t => by
    obtain ⟨q, rfl⟩ := r
    exact .cons (strKind_is _ _ _ _) (items_texts t)
theorem rows_el (I : Inv X pins σ H s) : ∀ {ds : List D} {ks : List (List Str)} {xs : List V} {us : List Value}, rowsOfD ds = some ks → FzAll X.K H O xs ds → Vals xs us → ks.length = us.length ∧ ∀ (i : Nat) (v : Value), us[i]? = some v → ∃ k, ks[i]? = some k ∧ ElT X.prog X.w s.heap v k
  | [], _, _, _, e, .nil, .nil => by cases e; exact ⟨rfl, fun i v h => by simp at h⟩
  | d :: ds, _, _, _, e, .cons f fs, .cons r rs => by
    obtain ⟨k, e1, e2⟩ := Option.bind_eq_some_iff.mp e
    obtain ⟨ks, e3, rfl⟩ := Option.map_eq_some_iff.mp e2
    obtain ⟨h1, h2⟩ := rows_el I e3 fs rs
    refine ⟨by rw [List.length_cons, List.length_cons, h1], fun i v h => ?_⟩
    cases i with
    | zero =>
      simp only [List.getElem?_cons_zero, Option.some.injEq] at h
      subst h
      refine ⟨k, rfl, ?_⟩
      cases d with
      | tuple es =>
        cases f with
        | tup g1 g2 =>
          cases r
          rw [strsOf_eq (show strsOf es = some k from e1)] at g2
          have g3 := g1.sq
          rw [fz_strs g2] at g3
          obtain ⟨its, rv, ⟨o, ho, hc, n, hd⟩, _⟩ := I.tuple g3
          exact ⟨_, rfl, o, its.toArray, n, ho, hc, hd, by simpa using items_texts rv⟩
      | _ => cases e1
    | succ i => exact h2 i v (by simpa using h)
theorem strs_el : ∀ {ss : List Str} {us : List Value}, Vals (ss.map V.str) us → ss.length = us.length ∧ ∀ (i : Nat) (v : Value), us[i]? = some v → ∃ k, ss[i]? = some k ∧ ElS v k
  | [], _, .nil => ⟨rfl, fun i v h => by simp at h⟩
  | z :: ss, _, .cons r rs => by
    obtain ⟨h1, h2⟩ := strs_el rs
    refine ⟨by rw [List.length_cons, List.length_cons, h1], fun i v h => ?_⟩
    cases i with
    | zero =>
      simp only [List.getElem?_cons_zero, Option.some.injEq] at h
      subst h
      obtain ⟨t, rfl⟩ := r
      exact ⟨z, rfl, t, rfl⟩
    | succ i => exact h2 i v (by simpa using h)
/-- set(x), then len of it -/
theorem len_bag {l : Addr} {d : D} {z : RV} {Q : Value → Shared → Prop} (hh : X.A.handled = none) (hu : X.A.units + 3 < cLine) (I : Inv X pins σ H s) (f : Lk X.K H O (.ref l) d) (e : gLenSet d = some z)
    (k : ∀ n h' tk, z = .d (.int (n : Nat)) → SizeIs h' s.heap.objs.size n → n ≤ 4000 → Inv X pins σ H { s with heap := h', toks := tk } → Q (.ref s.heap.objs.size) { s with heap := h', toks := tk }) :
    wpAny (model X.prog X.w) X.A (call (.type "set") [.ref l]) Q X.xe s := by
  obtain ⟨ds, e1, e2⟩ := Option.bind_eq_some_iff.mp e
  have obj : ∃ xs us T o n, Vals xs us ∧ FzAll X.K H O xs ds ∧ (T = "list" ∨ T = "tuple") ∧ s.heap.get? l = some o ∧ o.cls = .type T ∧ o.data = .seq us.toArray n := by
    cases d with
    | list es =>
      cases e1
      obtain ⟨a, xs, ea, h1, h2⟩ := lk_list f
      cases ea
      obtain ⟨us, rv, ⟨o, n, ho, hc, _, hd⟩, _⟩ := I.list h1
      exact ⟨xs, us, _, o, n, rv, h2, .inl rfl, ho, hc, hd⟩
    | tuple es =>
      cases e1
      obtain ⟨a, xs, ea, h1, h2, _⟩ := lk_tup f
      cases ea
      obtain ⟨us, rv, ⟨o, ho, hc, n, hd⟩, _⟩ := I.tuple h1
      exact ⟨xs, us, _, o, n, rv, h2, .inr rfl, ho, hc, hd⟩
    | _ => cases e1
  obtain ⟨xs, us, T, o, n, rv, fz, hT, ho, hc, hd⟩ := obj
  have nS : s.heap.get? s.heap.objs.size = none := by
    cases q : s.heap.get? s.heap.objs.size with
    | none => rfl
    | some o => exact absurd (Heap.lt_size q) (Nat.lt_irrefl _)
  split at e2
  · rename_i ss hss
    split at e2
    · rename_i hz
      cases e2
      rw [strsOf_eq hss] at fz
      rw [fz_strs fz] at rv
      obtain ⟨g1, g2⟩ := strs_el rv
      refine call_bag hT hh ho hc hd ss (by simpa using g1) (by simpa using g1 ▸ hz) (fun i v h => g2 i v (by simpa using h)) addsS hu (fun h' e => bagS_new e) fun h' tk hB hk => ?_
      exact k _ h' tk rfl (bagS_size hB) (Nat.le_trans (dd_len ss) hz) (I.kept (t' := tk) hk)
    · cases e2
  · obtain ⟨ks, e3, e4⟩ := Option.bind_eq_some_iff.mp e2
    split at e4
    · rename_i hz
      cases e4
      obtain ⟨g1, g2⟩ := rows_el I e3 fz rv
      refine call_bag hT hh ho hc hd ks (by simpa using g1) (by simpa using g1 ▸ hz) (fun i v h => g2 i v (by simpa using h)) (addsT nS) hu (fun h' e => bagT_new e) fun h' tk hB hk => ?_
      exact k _ h' tk rfl (bagT_size hB) (by have := dd_len ks; omega) (I.kept (t' := tk) hk)
    · cases e4
end
section
variable {X : Cx} {a : Expr} {m : ME} {p p2 q pos : Pos}
theorem p_lenSet (hu : X.A.units + 3 < cLine) (hm : X.mg "len" = none) (hm2 : X.mg "set" = none) (ha : PE X a (tE X.K m)) (hc : X.calm = true := by rfl) (hg : Gl X "len" := by rfl) (hg2 : Gl X "set" := by rfl) (na : starEach [a] X.env = (false, eval a X.env) :: starEach [] X.env := by rfl) :
    PE X (.Call (.Name "len" p) [.Call (.Name "set" p2) [a] [] q] [] pos) (tE X.K (m1 gLenSet m)) := by
  refine ⟨fun pins s σ H Q I ⟨ρ, O, z, ρ', E, e1, k⟩ => ?_⟩
  obtain ⟨⟨r1, ρ1⟩, h1, e1⟩ := Option.bind_eq_some_iff.mp e1
  obtain ⟨d, h3, e1⟩ := Option.bind_eq_some_iff.mp e1
  obtain ⟨z', h5, e1⟩ := Option.map_eq_some_iff.mp e1
  cases e1
  refine Call_ (ld_blt I hg hm boot_len (PyProof.Rows.callWith_builtin1 (PyProof.Rows.args_cons ?_ rfl) rfl rfl))
  refine Call_ (ld_blt I hg2 hm2 boot_set (PyProof.Rows.callWith_type1 (PyProof.Rows.args_cons ?_ na) na rfl))
  refine thn (ha.run pins s σ H (fun x H1 => ∃ O1, EnvOk X.K H1 O1 σ ρ1 ∧ Stp σ ρ O H σ ρ1 O1 H1 ∧ RvOk X.K H H1 O1 σ ρ1 x r1) I ⟨ρ, O, r1, _, E, h1, fun x H1 O1 E1 S1 R1 => ⟨O1, E1, S1, R1⟩⟩) fun v s1 ⟨x, H1, I1, rx, O1, E1, S1, R1⟩ => PyProof.Rows.args_nil ?_
  have L := look_ok E1 R1 h3
  have isRef : ∃ l, x = .ref l := by
    cases d with
    | list ds => obtain ⟨l, _, e, _⟩ := lk_list L; exact ⟨l, e⟩
    | tuple ds => obtain ⟨l, _, e, _⟩ := lk_tup L; exact ⟨l, e⟩
    | _ => cases h5
  obtain ⟨l, rfl⟩ := isRef
  cases rx
  refine len_bag (I1.ok.hd hc) hu I1 L h5 fun n h' tk ez sz hn I2 => PyProof.Rows.args_nil ?_
  obtain ⟨o, es, ep, t, ho, hex, hd, hf, hn2⟩ := sz
  refine call_len_set ho hex hd hf (by rw [hn2]; omega) ⟨.int (n : Nat), H1, I2.tok _, ⟨_, by rw [hn2]⟩, ?_⟩
  subst ez
  exact k _ H1 O1 E1 S1 (.int _)
end
end PL

/-! PL12: a, b = x, y; enumerate; zip; two clauses; keywords. -/
namespace PL
open PySem PySem.Spec PyProof.Rows L2
variable [TheW]

/-! ### several names stored at once -/
def stE (i : Nat) (r : RV) (ρ : Ev) : Option Ev := match r with
  | .nl o => if noBrw ρ[i]? = true then some (ρ.set i (.own o)) else none
  | .ob C fs => if noBrw ρ[i]? = true then some (ρ.set i (.ob C fs)) else none
  | r => (frz ρ r).bind fun q => if noBrw q.2[i]? = true then some (q.2.set i (.v q.1)) else none
def alNot (i : Nat) : RV → Bool
  | .al j => j != i
  | _ => true
section
variable {K : PySem.W.Frag} {H H0 : Hp} {O O0 : Addr → Prop} {σ σ0 : L2.St} {ρ ρ0 ρ' : Ev} {x : V} {r : RV} {i : Nat}
theorem rv_set {O' : Addr → Prop} {c : DV} {y : V} {r2 : RV} (R : RvOk K H0 H O' σ ρ y r2) (na : alNot i r2 = true) (ne : ∀ b o, r2 = .nl o → y = .ref b → (∃ o', c = .own o' ∨ c = .brw o') → x ≠ .ref b) : RvOk K H0 H O' (σ.set i (some x)) (ρ.set i c) y r2 := by
  cases r2 with
  | d d => exact R
  | al j =>
    have nj : j ≠ i := by simpa [alNot] using na
    show (σ.set i (some x))[j]? = _
    rw [set_ne nj]
    exact R
  | ob C fs => exact R
  | nl o =>
    obtain ⟨b, rfl, h1, h2, h3, h4⟩ := R
    refine ⟨b, rfl, h1, fun ⟨j, w1, w2⟩ => ?_, h3, h4⟩
    rcases ow_set w1 with ⟨e, ho⟩ | ⟨n, w⟩
    · subst e
      rcases getElem?_set_of w2 with ⟨_, z⟩ | ⟨n, _⟩
      · exact ne b o rfl rfl ho (Option.some.inj z).symm
      · exact n rfl
    · rw [set_ne n] at w2
      exact h2 ⟨j, w, w2⟩
theorem st_ok (E : EnvOk K H O σ ρ) (tr : ∀ a, O0 a → H0 a ≠ none) (S : Stp σ0 ρ0 O0 H0 σ ρ O H) (R : RvOk K H0 H O σ ρ x r) (e : stE i r ρ = some ρ') :
    ∃ O', EnvOk K H O' (σ.set i (some x)) ρ' ∧ Stp σ0 ρ0 O0 H0 (σ.set i (some x)) ρ' O' H ∧
      ∀ (y : V) (r2 : RV), RvOk K H0 H O σ ρ y r2 → alNot i r2 = true → (∀ a o o', r = .nl o → r2 = .nl o' → x = .ref a → y ≠ .ref a) → RvOk K H0 H O' (σ.set i (some x)) ρ' y r2 := by
  have gen : ∀ r', RvOk K H H O σ ρ x r' → ((frz ρ r').bind fun q => if noBrw q.2[i]? = true then some (q.2.set i (.v q.1)) else none) = some ρ' → (∀ o, r' ≠ .nl o) → ∃ O', EnvOk K H O' (σ.set i (some x)) ρ' ∧ Stp σ0 ρ0 O0 H0 (σ.set i (some x)) ρ' O' H ∧
      ∀ (y : V) (r2 : RV), RvOk K H0 H O σ ρ y r2 → alNot i r2 = true → RvOk K H0 H O' (σ.set i (some x)) ρ' y r2 := fun r' R' z _ => by
    obtain ⟨⟨d, ρ2⟩, f1, f2⟩ := Option.bind_eq_some_iff.mp z
    obtain ⟨O2, E2, S2, F2⟩ := frz_ok E.tr E .refl R' f1
    dsimp only at f2
    split at f2
    · rename_i hb
      cases f2
      exact ⟨O2, E2.setv F2, (Stp.trans tr S S2).set (noBrw_ne hb) fun o a z _ => (by rcases z with z | z <;> cases z), fun y r2 Ry na => rv_set (Ry.stp E S2) na fun b o _ _ ⟨o', z⟩ => by rcases z with z | z <;> cases z⟩
    · cases f2
  cases r with
  | d y =>
    obtain ⟨O', a1, a2, a3⟩ := gen (.d y) R e (fun o z => by cases z)
    exact ⟨O', a1, a2, fun y r2 Ry na _ => a3 y r2 Ry na⟩
  | al j =>
    obtain ⟨O', a1, a2, a3⟩ := gen (.al j) R e (fun o z => by cases z)
    exact ⟨O', a1, a2, fun y r2 Ry na _ => a3 y r2 Ry na⟩
  | nl oc =>
    have e : (if noBrw ρ[i]? = true then some (ρ.set i (.own oc)) else none) = some ρ' := e
    split at e
    · rename_i hb
      cases e
      obtain ⟨a, rfl, h1, h2, h3, h4⟩ := R
      exact ⟨O, E.setown h1 h2 h4, S.set (noBrw_ne hb) fun o b _ z => (by cases z; exact h3), fun y r2 Ry na ne => rv_set Ry na fun b o e1 e2 _ z => ne b oc o rfl e1 z e2⟩
    · cases e
  | ob C fs =>
    have e : (if noBrw ρ[i]? = true then some (ρ.set i (.ob C fs)) else none) = some ρ' := e
    split at e
    · rename_i hb
      cases e
      exact ⟨O, E.setob R, S.set (noBrw_ne hb) fun o b z _ => (by rcases z with z | z <;> cases z), fun y r2 Ry na ne => rv_set Ry na fun b o e1 e2 ⟨o', z⟩ _ => by rcases z with z | z <;> cases z⟩
    · cases e
end
def mPar2 (i j : Nat) (ms : MA) : MS := fun ρ => (ms ρ).bind fun p => match p.1 with
  | [r1, r2] => if alNot i r2 = true then (stE i r1 p.2).bind fun ρ1 => (stE j r2 ρ1).map fun ρ2 => (.nx, ρ2) else none
  | _ => none
def mPar3 (i j l : Nat) (ms : MA) : MS := fun ρ => (ms ρ).bind fun p => match p.1 with
  | [r1, r2, r3] => if alNot i r2 = true ∧ alNot i r3 = true ∧ alNot j r3 = true then (stE i r1 p.2).bind fun ρ1 => (stE j r2 ρ1).bind fun ρ2 => (stE l r3 ρ2).map fun ρ3 => (.nx, ρ3) else none
  | _ => none
section
variable {X : Cx} {x y z : Str} {a b c : Expr} {ms : MA} {i j l : Nat} {px py pz pt pos : Pos} {kt k2 : Nat} {pt2 : Pos}
theorem s_par2 (hN : X.N.Nodup) (ha : PA X [a, b] (tA X.K ms)) (hij : i ≠ j := by decide) (hi : X.N[i]? = some x := by rfl) (hj : X.N[j]? = some y := by rfl) (hx : X.env.scope.names.lookup x = some .local := by rfl) (hy : X.env.scope.names.lookup y = some .local := by rfl) (hc : X.calm = true := by rfl)
    (hw : swappedStores [.Tuple [.Name x px, .Name y py] kt pt] (.Tuple [a, b] k2 pt2) X.env = pure (some [x, y]) := by rfl) (hs : swapsWithSole [.Tuple [.Name x px, .Name y py] kt pt] (.Tuple [a, b] k2 pt2) pos.line X.env = pure false := by rfl) :
    PS X (.Assign [.Tuple [.Name x px, .Name y py] kt pt] (.Tuple [a, b] k2 pt2) pos) (tS X.K (mPar2 i j ms)) := PS.of (ps_par hc hN hi hj hij hx hy ha hw hs) fun σ H D ⟨ρ, O, o, ρ', E, e1, k⟩ => by
  obtain ⟨⟨rs, ρ1⟩, e2, e3⟩ := Option.bind_eq_some_iff.mp e1
  refine ⟨ρ, O, rs, ρ1, E, e2, fun xs H1 O1 E1 S1 R1 => ?_⟩
  dsimp only at e3
  split at e3
  · rename_i r1 r2
    split at e3
    · rename_i na
      obtain ⟨ρ2, e4, e5⟩ := Option.bind_eq_some_iff.mp e3
      obtain ⟨ρ3, e6, e7⟩ := Option.map_eq_some_iff.mp e5
      cases e7
      obtain ⟨all, dis⟩ := R1
      cases all with
      | cons h1 t =>
        cases t with
        | cons h2 t =>
          cases t
          rename_i v1 v2
          obtain ⟨O2, E2, S2, T2⟩ := st_ok E1 E.tr S1 h1 e4
          obtain ⟨O3, E3, S3, _⟩ := st_ok E2 E.tr S2 (T2 v2 r2 h2 na fun a o o' f1 f2 f3 f4 => by
            have := dis 0 1 a o o' (by rw [f1]; rfl) (by rw [f2]; rfl) (by rw [f3]; rfl) (by rw [f4]; rfl)
            omega) e6
          exact ⟨v1, v2, rfl, k _ H1 O3 E3 S3⟩
    · cases e3
  · cases e3
end

/-! ### pairs that an iterator lays -/
def Fy (K : PySem.W.Frag) (H : Hp) (O : Addr → Prop) (v : V) (d : D) : Prop := Fz K H O v d ∨ ∃ p xs ds, v = .ref p ∧ d = .tuple ds ∧ H p = some (.tup xs) ∧ FzAll K H O xs ds
section
variable {X : Cx} {es : List Expr} {vs : List Nat} {k n : Nat} {gs : MGs} {pos : Pos}
theorem g_tupY (h : PGs X es (tGs X.K vs gs)) (hc : X.calm = true := by rfl) (hn : (assignEach es X.env).length = n := by rfl) (hst : (assignEach es X.env).findIdx? (·.1) = none := by rfl) : PG X (.Tuple es k pos) (tGF X.K (Fy X.K) vs (gTup' n gs)) :=
  PG.of (pg_tup hc h hn hst) fun v σ H Q ⟨ρ, O, d, ρ', E, F, e1, k⟩ => by
    rcases F with F | ⟨p, xs, ds, rfl, rfl, hp, F⟩
    · cases d with
      | tuple ds =>
        have e1 : (if ds.length = n then gs ds ρ else none) = some ρ' := e1
        split at e1
        · rename_i hl
          cases F with
          | tup h1 h2 => exact ⟨_, _, rfl, h1.sq, by rw [h2.length]; exact hl, ρ, O, ds, ρ', E, h2, e1, k⟩
        · cases e1
      | _ => cases e1
    · have e1 : (if ds.length = n then gs ds ρ else none) = some ρ' := e1
      split at e1
      · rename_i hl
        exact ⟨p, xs, rfl, .inl (.inl hp), by rw [F.length]; exact hl, ρ, O, ds, ρ', E, F, e1, k⟩
      · cases e1
end
/-- the pairs of enumerate, of zip -/
def enumD (ds : List D) : List D := ds.mapIdx fun i d => .tuple [.int (i : Nat), d]
section
variable {K : PySem.W.Frag}
theorem new_pair {H : Hp} {O : Addr → Prop} {T : Addr} {xs : List V} {ds : List D} (n : H T = none) (f : FzAll K H O xs ds) : (∀ a o, H a = some o → upd H T (.tup xs) a = some o) ∧ Fy K (upd H T (.tup xs)) O (.ref T) (.tuple ds) := by
  have keep : ∀ a o, H a = some o → upd H T (.tup xs) a = some o := fun a o h => by rw [upd_ne (ne_of_none h n)]; exact h
  exact ⟨keep, .inr ⟨T, xs, ds, rfl, rfl, upd_same, FzAll.mv ⟨fun a o h _ => keep a o h, fun _ h => .inl h⟩ _ _ f⟩⟩
end
section
variable {X : Cx} {e e2 : Expr} {ms : MDs} {p pos tpos : Pos} {elts : List Expr} {kk : Nat}
end
end PL

/-! PL13: comprehensions of two clauses. -/
namespace PL
open PySem PySem.Spec PyProof.Rows L2
variable [TheW]

section
variable {K : PySem.W.Frag} {H H0 : Hp} {O O0 : Addr → Prop} {σ σ0 : L2.St} {ρ ρ0 : Ev} {vs vs1 : List Nat}
end
section
variable {mi mi1 : MDs} {g g1 : MG} {t t1 : MT} {m : MD} {vs vs1 : List Nat} {K : PySem.W.Frag} {F F1 : Hp → (Addr → Prop) → V → D → Prop}
end
section
variable {X : Cx} {elt tg iter tg1 iter1 : Expr} {ifs ifs1 : List Expr} {scope : Scope} {own : List (Str × Nat)} {vs1 : List Nat} {pos spos : Pos} {mi mi1 : MDs} {g g1 : MG} {tt tt1 : MT} {m : MD} {F F1 : Hp → (Addr → Prop) → V → D → Prop}
end
end PL

/-! PL14: keyword calls; defs of the top; the law's end. -/
namespace PL
open PySem PySem.Spec PyProof.Rows L2
variable [TheW]

/-! ### arguments put in the parameters' order -/
def pick {α : Type} (idx : List Nat) (xs : List α) : List α := idx.filterMap (xs[·]?)
section
variable {K : PySem.W.Frag} {H H0 : Hp} {O : Addr → Prop} {σ : L2.St} {ρ : Ev} {xs : List V} {rs : List RV}
/-- the j-th picked one -/
theorem pick_at {α : Type} {xs : List α} : ∀ {idx : List Nat}, (∀ i ∈ idx, i < xs.length) → ∀ j : Nat, (pick idx xs)[j]? = (idx[j]?).bind (xs[·]?)
  | [], _, j => by simp [pick]
  | i :: idx, h, j => by
    have hi := List.getElem?_eq_getElem (h i List.mem_cons_self)
    unfold pick
    rw [List.filterMap_cons_some hi]
    cases j with
    | zero => simp [hi]
    | succ j =>
      have := pick_at (idx := idx) (fun q hq => h q (List.mem_cons_of_mem _ hq)) j
      unfold pick at this
      simpa using this
theorem pick_len {α : Type} {xs : List α} : ∀ {idx : List Nat}, (∀ i ∈ idx, i < xs.length) → (pick idx xs).length = idx.length
  | [], _ => rfl
  | i :: idx, h => by
    have hi := List.getElem?_eq_getElem (h i List.mem_cons_self)
    have := pick_len (idx := idx) fun q hq => h q (List.mem_cons_of_mem _ hq)
    unfold pick at this ⊢
    rw [List.filterMap_cons_some hi, List.length_cons, List.length_cons, this]
theorem paired_of {α β : Type} {R : α → β → Prop} : ∀ {xs : List α} {ys : List β}, xs.length = ys.length → (∀ (i : Nat) (x : α) (y : β), xs[i]? = some x → ys[i]? = some y → R x y) → Paired R xs ys
  | [], [], _, _ => .nil
  | x :: xs, y :: ys, h, r => .cons (r 0 x y rfl rfl) (paired_of (by simpa using h) fun i a b h1 h2 => r (i + 1) a b (by simpa using h1) (by simpa using h2))
theorem paired_get {α β : Type} {R : α → β → Prop} {xs : List α} {ys : List β} (P : Paired R xs ys) : ∀ (i : Nat) (x : α) (y : β), xs[i]? = some x → ys[i]? = some y → R x y := by
  induction P with
  | nil => intro i x y h; simp at h
  | cons h t ih =>
    intro i x y h1 h2
    cases i with
    | zero =>
      simp only [List.getElem?_cons_zero, Option.some.injEq] at h1 h2
      subst h1; subst h2
      exact h
    | succ i => exact ih i x y (by simpa using h1) (by simpa using h2)
theorem RvsOk.pick {idx : List Nat} (R : RvsOk K H0 H O σ ρ xs rs) (h : ∀ i ∈ idx, i < rs.length) (nd : idx.Nodup) : RvsOk K H0 H O σ ρ (PL.pick idx xs) (PL.pick idx rs) := by
  have len := Paired.length R.all
  have hx : ∀ i ∈ idx, i < xs.length := fun i hi => by rw [len]; exact h i hi
  refine ⟨paired_of (by rw [pick_len hx, pick_len h]) fun j x r h1 h2 => ?_, fun i j a o o' h1 h2 h3 h4 => ?_⟩
  · rw [pick_at hx] at h1
    rw [pick_at h] at h2
    obtain ⟨q, e1, e2⟩ := Option.bind_eq_some_iff.mp h1
    rw [e1] at h2
    exact paired_get R.all q x r e2 h2
  · rw [pick_at h] at h1 h2
    rw [pick_at hx] at h3 h4
    obtain ⟨p, e1, e2⟩ := Option.bind_eq_some_iff.mp h1
    obtain ⟨q, e3, e4⟩ := Option.bind_eq_some_iff.mp h2
    rw [e1] at h3
    rw [e3] at h4
    have := R.dis p q a o o' e2 e4 h3 h4
    subst this
    exact (List.getElem?_inj (List.getElem?_eq_some_iff.mp e1).1 nd).mp (e1.trans e3.symm)
end
/-- f(k = v, ..): the parameters by keywords alone -/
def KwB (K : PySem.W.Frag) (fd : FuncData) (ps ks : List Str) (idx : List Nat) : Prop := ∀ (s : Shared) (us : List Value), K.In s.heap → us.length = ks.length → BindsTo s fd ⟨[], ks.zip us⟩ (ps.zip (pick idx us))
def mCallK (fm : ME) (n : Nat) (idx : List Nat) (ms : MA) : ME := fun ρ => (ms ρ).bind fun p => if p.1.length = n ∧ (alsOf (pick idx p.1)).Nodup then (argDVs p.2 (pick idx p.1)).bind fun dvs => (fm dvs).bind fun q => match q.1 with
  | .d d => some (.d d, putBack p.2 (pick idx p.1) q.2)
  | .nl o => some (.nl o, putBack p.2 (pick idx p.1) q.2)
  | .ob C fs => some (.ob C fs, putBack p.2 (pick idx p.1) q.2)
  | .al _ => none
  else none
theorem PK.of {X : Cx} {e : List Keyword} {t t' : TA} (h : PK X e t) (i : ∀ σ H Q, t' σ H Q → t σ H Q) : PK X e t' := ⟨fun pos pins s σ H Q I q => h.run pos pins s σ H Q I (i σ H Q q)⟩
theorem tA_nil {K : PySem.W.Frag} : ∀ σ H Q, tA K mANil σ H Q → tNil σ H Q := fun σ H Q ⟨ρ, O, rs, ρ', E, e1, k⟩ => by
  cases e1
  exact k [] H O E .refl ⟨.nil, fun i j a o o' h => by simp at h⟩
theorem tA_cons {K : PySem.W.Frag} {m : ME} {ms : MA} : ∀ σ H Q, tA K (mACons m ms) σ H Q → tCons (tE K m) (tA K ms) σ H Q := fun σ H Q ⟨ρ, O, rs, ρ', E, e1, k⟩ => by
  obtain ⟨⟨r, ρ1⟩, e2, e3⟩ := Option.bind_eq_some_iff.mp e1
  obtain ⟨⟨rs1, ρ2⟩, e4, e5⟩ := Option.bind_eq_some_iff.mp e3
  cases e5
  refine ⟨ρ, O, r, ρ1, E, e2, fun x H1 O1 E1 S1 R1 => ⟨ρ1, O1, rs1, _, E1, e4, fun xs H2 O2 E2 S2 R2 => ?_⟩⟩
  have nlNew : ∀ (j : Nat) (a : Addr) (o : OC), rs1[j]? = some (RV.nl o) → xs[j]? = some (V.ref a) → H1 a = none := fun j a o hj hx => by
    obtain ⟨x, g1, b, eb, _, _, g2, _⟩ := rvs_get R2.all j _ hj
    rw [hx] at g1
    cases g1
    cases eb
    exact g2
  refine k (x :: xs) H2 O2 E2 (Stp.trans E.tr S1 S2) ⟨.cons (R1.stp E1 S2) (Paired.mapP R2.all fun y q h => h.back S1.there), fun i j a o o' h1 h2 h3 h4 => ?_⟩
  have first : ∀ {o : OC}, r = RV.nl o → x = V.ref a → H1 a ≠ none := fun {o} h5 h6 => by
    subst h5
    obtain ⟨b, eb, _, _, _, h7⟩ := R1
    rw [h6] at eb
    cases eb
    exact h7.there
  cases i with
  | zero =>
    cases j with
    | zero => rfl
    | succ j => exact absurd (nlNew j a o' (by simpa using h2) (by simpa using h4)) (first (by simpa using h1) (by simpa using h3))
  | succ i =>
    cases j with
    | zero => exact absurd (nlNew i a o (by simpa using h1) (by simpa using h3)) (first (by simpa using h2) (by simpa using h4))
    | succ j => rw [R2.dis i j a o o' (by simpa using h1) (by simpa using h2) (by simpa using h3) (by simpa using h4)]
section
variable {X : Cx} {k : Nat} {f : Addr} {fd : FuncData} {ps ks : List Str} {fm : ME} {x : Str} {nm : Option Str} {p pos kpos : Pos} {e : Expr} {kws : List Keyword} {m : ME} {ms : MA} {idx : List Nat}
theorem kw_nil : PK X [] (tA X.K mANil) := PK.of pk_nil tA_nil
theorem kw_cons (ha : PE X e (tE X.K m)) (hr : PK X kws (tA X.K ms)) : PK X (⟨nm, e, kpos⟩ :: kws) (tA X.K (mACons m ms)) := PK.of (pk_cons ha hr) tA_cons
theorem p_callK (F : FnG X.prog X.w X.K X.mg X.base k f fd ps fm) (hr : Room k X.A) (hgd : X.A.guards = some []) (hm : X.mg x = some (.ref f)) (hk : PySem.W.keepIn X.K (.ref f) = true) (hb : KwB X.K fd ps ks idx) (ha : PK X kws (tA X.K ms)) (hin : ∀ i ∈ idx, i < ks.length := by decide) (nd : idx.Nodup := by decide)
    (hg : Gl X x := by rfl) (hdb : (x == ("__debug__" : Str)) = false := by decide) (hall : (backToKw pos (keywordEach kws X.env)).all (·.1.isSome) = true := by rfl) (hks : (backToKw pos (keywordEach kws X.env)).filterMap (·.1) = ks := by rfl)
    (hpl : ((backTo pos (starEach [] X.env)).any (·.1) || (backToKw pos (keywordEach kws X.env)).any (·.1.isNone)) = false := by rfl) :
    PE X (.Call (.Name x p) [] kws pos) (tE X.K (mCallK fm ks.length idx ms)) := by
  refine ⟨fun pins s σ H Q I ⟨ρ, O, r, ρ', E, e1, kk⟩ => ?_⟩
  obtain ⟨⟨rs, ρ1⟩, e2, e3⟩ := Option.bind_eq_some_iff.mp e1
  dsimp only at e3
  split at e3
  case isFalse => cases e3
  rename_i hc
  obtain ⟨dvs, e4, e5⟩ := Option.bind_eq_some_iff.mp e3
  refine wpAny_Call_Name_kw (ld_glob I hg hm ?_ hdb)
  refine PySem.W.callWith_KW0 (h₀ := X.base) I.ok.mod.kin hk hall ?_ hpl
  refine thn (ha.run pos pins s σ H (fun xs H1 => xs.length = ks.length ∧ tE X.K fm ((pick idx xs).map some) H1 Q) I ⟨ρ, O, rs, ρ1, E, e2, fun xs H1 O1 E1 S1 R1 => ?_⟩) fun ws s2 ⟨zs, H2, I2, rz, hl, q2⟩ => ⟨I2.kIn, ?_⟩
  · have len := Paired.length R1.all
    exact ⟨by rw [len]; exact hc.1, call_of E.tr E1 S1 (R1.pick (fun i hi => by rw [hc.1]; exact hin i hi) nd) hc.2 e4 e5 kk⟩
  · rw [hks]
    show wpAny (model X.prog X.w) X.A (call (.ref f) [] (ks.zip ws)) (EP X pins σ Q) X.xe s2
    have lw : ws.length = ks.length := by rw [← rz.length]; exact hl
    have pv : Vals (pick idx zs) (pick idx ws) := by
      have h1 : ∀ i ∈ idx, i < zs.length := fun i hi => by rw [hl]; exact hin i hi
      have h2 : ∀ i ∈ idx, i < ws.length := fun i hi => by rw [lw]; exact hin i hi
      refine paired_of (by rw [pick_len h1, pick_len h2]) fun j v u g1 g2 => ?_
      rw [pick_at h1] at g1
      rw [pick_at h2] at g2
      obtain ⟨q, e1, e2⟩ := Option.bind_eq_some_iff.mp g1
      rw [e1] at g2
      exact paired_get rz q v u e2 g2
    refine wpAny_call (codeAny_mono (F.run X.A X.stack s2 H2 ⟨[], ks.zip ws⟩ (pick idx ws) (pick idx zs) Q hr hgd I2.env0 (hb s2 ws I2.kIn lw) pv q2) fun z s' hq => ?_)
    cases z with
    | error e => exact False.elim hq
    | ok fl =>
      cases fl with
      | ret u => exact I2.after hq
      | next => exact False.elim hq
      | brk => exact False.elim hq
      | cont => exact False.elim hq
end

/-! ### a def of the top -/
abbrev DefT (K : PySem.W.Frag) (x : Str) (st : Stmt) (f : Addr) (fd : FuncData) : Prop := FunD K x x (defArgs st) (defBody st) (defScope st) [] [] f fd
section
variable {P : Program} {w : World} {K : PySem.W.Frag} {mg : Str → Option Value} {base : Heap}
theorem DefT.fun {x : Str} {st : Stmt} {f : Addr} {fd : FuncData} (F : DefT K x st f fd) : Fun K x x st f fd := by
  obtain ⟨oc, od, dV, kV, doc, pm, an, cdv, ct, osl, e, lk, hcd, hD, _⟩ := F.ex
  rcases hD with ⟨_, rfl⟩ | ⟨z, _⟩
  · exact ⟨⟨oc, od, kV, doc, pm, an, cdv, ct, osl, e, lk, hcd⟩, F.kp⟩
  · exact absurd rfl z
theorem DefT.kwb {x : Str} {st : Stmt} {f : Addr} {fd : FuncData} {ps ks : List Str} {idx : List Nat} (F : DefT K x st f fd)
    (h : ∀ (kV doc pm : Value) (an : Option Addr) (cdv ct : Value) (us : List Value), us.length = ks.length → bindArgs (PySem.W.fnOf x x (defArgs st) (defBody st) (defScope st) .none kV doc pm an cdv ct) ⟨[], ks.zip us⟩ = pure (ps.zip (pick idx us))) : KwB K fd ps ks idx := by
  obtain ⟨oc, od, dV, kV, doc, pm, an, cdv, ct, osl, rfl, lk, hcd, hD, hK⟩ := F.ex
  rcases hD with ⟨_, rfl⟩ | ⟨e, _⟩
  · exact fun s us _ hl => .of_eq (h kV doc pm an cdv ct us hl)
  · exact absurd rfl e
end

/-! ### the law's end -/
/-- the script as the heap ahead of the law tracks it -/
def scriptH (K : PySem.W.Frag) (a : Addr) (o : Obj) (xs : List V) : Hp := fun b => if b = a ∧ K.lookup a = none then some (.frz o (.lst xs)) else none
theorem scriptH_of {K : PySem.W.Frag} {a b : Addr} {o : Obj} {xs : List V} {u : HO} (h : scriptH K a o xs b = some u) : b = a ∧ K.lookup a = none ∧ u = .frz o (.lst xs) := by
  unfold scriptH at h
  split at h
  · rename_i c
    exact ⟨c.1, c.2, (Option.some.inj h).symm⟩
  · cases h
theorem law_g {P : Program} {w : World} {K : PySem.W.Frag} {mg mb : Str → Option Value} {k : Nat} {fa a : Addr} {fd : FuncData} {x : Str} {fm : ME} {s₁ : Shared} {vs : List Value} {ns : List Int} (KX : K.In s₁.heap) (hns : s₁.heap.Ns mainGlobals mg) (hb : s₁.heap.Ns builtinsNs mb)
    (hbb : ∀ x : Str, x ≠ "__name__" → mb x = bootBuiltins x) (hlim : s₁.heap.NoLimit) (hg : s₁.gens = #[]) (ha : s₁.heap.get? a = some { cls := .type "list", data := .seq vs.toArray }) (hi : IntsAre vs ns) (hl : ns.length ≤ sizeLine) (hr : Room k callerA)
    (F : ∀ base : Heap, K.In base → base.Ns mainGlobals mg → FnG P w K mg base k fa fd [x] fm) (hbind : ∀ (s : Shared) (u : Value), BindsTo s fd ⟨[u], []⟩ [(x, u)]) (law : ∃ ρ, fm [.v (.list (ns.map .int))] = some (.d (.bool true), ρ)) :
    codeAny (model P w) callerA (.call (.ref fa) ⟨[.ref a], []⟩) (fun r s' => r = .ok (.ret (.bool true)) ∧ OldK s₁.heap s'.heap ∧ s'.os = s₁.os ∧ AllBare s'.gens) s₁ := by
  obtain ⟨ρ, law⟩ := law
  have rv := vals_ints hi
  let so : Obj := { cls := .type "list", data := .seq vs.toArray }
  let H := scriptH K a so (ns.map V.int)
  have hok : HOk P w H s₁.heap := fun b u hu => by
    obtain ⟨rfl, _, rfl⟩ := scriptH_of hu
    exact ⟨ha, by rw [List.length_map]; exact hl, vs, _, rv, ha⟩
  have offK : ∀ b o, K.lookup b = some o → H b = none := fun b o e => by
    cases q : H b with
    | none => rfl
    | some u =>
      obtain ⟨rfl, n, _⟩ := scriptH_of q
      rw [n] at e
      cases e
  have offD : ∀ {b : Addr} {o : Obj} {es : Array DictEntry} {ep : Nat}, s₁.heap.get? b = some o → o.data = .dict es ep → H b = none := fun {b o es ep} e d => by
    cases q : H b with
    | none => rfl
    | some u =>
      obtain ⟨rfl, _, _⟩ := scriptH_of q
      rw [ha] at e
      cases e
      cases d
  have nsB : ∀ {b : Addr} {m : Str → Option Value}, s₁.heap.Ns b m → (hidT s₁.heap H).Ns b m := fun {b m} ⟨o, es, ep, e, d, r⟩ => ⟨o, es, ep, hidT_get e (offD e d), d, r⟩
  have inB : K.In (hidT s₁.heap H) := fun b o e => hidT_get (KX b o e) (offK b o e)
  have limB : (hidT s₁.heap H).NoLimit := let ⟨mc, h1, h2⟩ := hlim; ⟨mc, nsB h1, h2⟩
  have env : Env0 P w K mg (hidT s₁.heap H) callerA [] s₁ H := by
    refine ⟨rfl, ⟨inB, nsB hns, ⟨mb, nsB hb, hbb⟩, limB⟩, fun b o e => of_hidT e, Nat.le_of_eq (hidT_size _ _), trivial, fun b hb => ?_, hok, .of_eq hg⟩
    exact absurd (show b ∈ ([] : List Addr) from hb) (by simp)
  have fz : Fz K H (fun _ => False) (.ref a) (.list (ns.map .int)) := by
    refine .lst (xs := ns.map V.int) ?_ fzAll_ints
    cases q : K.lookup a with
    | none => exact .inl ⟨.inr ⟨so, if_pos ⟨rfl, q⟩⟩, fun z => z⟩
    | some o =>
      have e := KX a o q
      rw [ha] at e
      cases e
      exact .inr ⟨_, vs.toArray, _, q, rfl, rfl, rfl, by rw [List.size_toArray, hi.length]; exact hl, by simpa using rv⟩
  have goal : tE K fm ([V.ref a].map some) H (fun v _ => v = .bl true) := by
    refine ⟨[.v (.list (ns.map .int))], fun _ => False, .d (.bool true), ρ, ⟨rfl, fun i c hc => ?_, fun i j b ⟨o, h1⟩ => ?_, fun b z => z.elim⟩, law, fun v H' O' _ _ R => ?_⟩
    · cases i with
      | zero =>
        cases (show some (DV.v (.list (ns.map .int))) = some c from hc)
        exact ⟨_, rfl, _, rfl, fz⟩
      | succ i => simp at hc
    · rcases h1 with h1 | h1
      · cases i with
        | zero => cases h1
        | succ i => simp at h1
      · cases i with
        | zero => cases h1
        | succ i => simp at h1
    · cases (show Fz K H' O' v (.bool true) from R)
      rfl
  refine codeAny_mono ((F _ inB (nsB hns)).run callerA [] s₁ H ⟨[.ref a], []⟩ [.ref a] [.ref a] _ hr rfl env (hbind s₁ (.ref a)) (.cons rfl .nil) goal) fun r s' h => ?_
  rcases r with e | fl
  · exact False.elim h
  · cases fl with
    | ret u =>
      obtain ⟨v, H', os, bare, un, hok', ru, rfl⟩ := h
      obtain rfl : u = Value.bool true := ru
      refine ⟨rfl, OldK.of_keep fun b o e => ?_, os, bare⟩
      cases q : H b with
      | none => exact un.keep b o e q (fun z => absurd (show b ∈ ([] : List Addr) from z) (by simp)) (by simp)
      | some u =>
        obtain ⟨rfl, _, rfl⟩ := scriptH_of q
        obtain ⟨e1, _⟩ := hok' b _ (un.frzs b so _ q)
        rw [ha] at e
        cases e
        exact e1
    | next => exact False.elim h
    | brk => exact False.elim h
    | cont => exact False.elim h
end PL
namespace PL
open PySem PySem.Spec PyProof.Rows L2
/-- the goal that the head leaves -/
theorem walk_g {l : PySem.W.OpenLaw} {n k : Nat} {q : Program} {loose : List Str} {XP : (Str → Option Value) → Heap → Prop} {YP : World → Heap → Prop} {d : DefRec} {x : Str} (hn : l.most = some n) (hn2 : n ≤ sizeLine) (hdf : d.params.defaults = []) (hr : Room k callerA)
    (F : ∀ (w : World) (mg : Str → Option Value) (fa : Addr) (h : Heap), YP w h → h.Ns mainGlobals mg → mg d.name = some (.ref fa) → ∃ (K : PySem.W.Frag) (fd : FuncData) (fm : ME), K.In h ∧ (∀ (s : Shared) (u : Value), BindsTo s fd ⟨[u], []⟩ [(x, u)]) ∧
        (∀ ns : List Int, ns.length ≤ n → ∃ ρ, fm [.v (.list (ns.map .int))] = some (.d (.bool true), ρ)) ∧ ∀ base : Heap, K.In base → base.Ns mainGlobals mg → @FnG ⟨w⟩ l.prog w K mg base k fa fd [x] fm) :
    PySem.W.WalkO q loose XP YP l.row.toRowW d [] (fun f vs => PySem.call f vs) := by
  refine Att.attach_call hn hdf fun w s₀ s₁ mg mb fa o pm cd doc a vs ns G Y _ _ _ hmg hobj hints hlen hg => ?_
  obtain ⟨K, fd, fm, KX, hb, law, hF⟩ := F w mg fa _ Y G.T.g hmg
  letI : TheW := ⟨w⟩
  exact law_g KX G.T.g G.T.b G.T.builtins G.T.nolimit hg hobj hints (Nat.le_trans hlen hn2) hr hF hb (law ns hlen)
end PL

/-! PL15: any names at once; defs by name. -/
namespace PL
open PySem PySem.Spec PyProof.Rows L2
variable [TheW]

/-! ### a, b, .. = x, y, .. stored from the left -/
def stAll : List Nat → List RV → Ev → Option Ev
  | [], [], ρ => some ρ
  | i :: is, r :: rs, ρ => if rs.all (alNot i) = true then (stE i r ρ).bind (stAll is rs) else none
  | _, _, _ => none
def mParN (is : List Nat) (ms : MA) : MS := fun ρ => (ms ρ).bind fun p => if p.1.length ≤ sizeLine then (stAll is p.1 p.2).map fun ρ' => (.nx, ρ') else none
section
variable {X : Cx} {ts es : List Expr} {ms : MA} {is : List Nat} {pt pos : Pos} {kt k2 : Nat} {pt2 : Pos}
end

/-! ### defs by their names -/
theorem u3 {k : Nat} {A : Around} (h : Room k A) : A.units + 3 < cLine := by have := h.un; omega
theorem u64 {k : Nat} {A : Around} (h : Room k A) : A.units + 64 < cLine := by have := h.un; omega
theorem u65 {k : Nat} {A : Around} (h : Room k A) : A.units + 65 < cLine := by have := h.un; omega
theorem u66 {k : Nat} {A : Around} (h : Room k A) : A.units + 66 < cLine := by have := h.un; omega
/-- a def of the top: where it stands -/
def At (K : PySem.W.Frag) (mg : Str → Option Value) (x : Str) (st : Stmt) : Prop := ∃ f fd, DefT K x st f fd ∧ mg x = some (.ref f)
structure Cl (P : Program) (w : World) (K : PySem.W.Frag) (mg : Str → Option Value) (base : Heap) (k : Nat) (x : Str) (ps : List Str) (fm : ME) : Prop where
  ex : ∃ f fd, FnG P w K mg base k f fd ps fm ∧ mg x = some (.ref f) ∧ PySem.W.keepIn K (.ref f) = true ∧ Binds K fd ps []
structure ClK (P : Program) (w : World) (K : PySem.W.Frag) (mg : Str → Option Value) (base : Heap) (k : Nat) (x : Str) (ps ks : List Str) (idx : List Nat) (fm : ME) : Prop where
  ex : ∃ f fd, FnG P w K mg base k f fd ps fm ∧ mg x = some (.ref f) ∧ PySem.W.keepIn K (.ref f) = true ∧ KwB K fd ps ks idx
section
variable {P : Program} {w : World} {K : PySem.W.Frag} {mg : Str → Option Value} {base : Heap}
theorem at_g {x : Str} {st : Stmt} {N ps : List Str} {k : Nat} {ms : MS} (A : At K mg x st) (S : FnScope N ps (defScope st)) (hb : ∀ (f : Addr) (cdv : Value) (A : Around) (outer : List Env) (s : Shared) (H : Hp), Room k (bodyX P w K mg base N x st f cdv A outer s H).A →
      (bodyX P w K mg base N x st f cdv A outer s H).A.guards = some [] → PSs (bodyX P w K mg base N x st f cdv A outer s H) (defBody st) (tS K ms)) : ∃ f fd, DefT K x st f fd ∧ mg x = some (.ref f) ∧ FnG P w K mg base (k + 1) f fd ps (mFn ps.length N.length ms) := by
  obtain ⟨f, fd, D, g⟩ := A
  exact ⟨f, fd, D, g, fn_g D.fun S (hb f)⟩
theorem cl_of {x : Str} {st : Stmt} {ps : List Str} {k : Nat} {fm : ME} (h : ∃ f fd, DefT K x st f fd ∧ mg x = some (.ref f) ∧ FnG P w K mg base k f fd ps fm)
    (hb : ∀ (kV doc pm : Value) (an : Option Addr) (cdv ct : Value) (us : List Value), us.length = ps.length → bindArgs (PySem.W.fnOf x x (defArgs st) (defBody st) (defScope st) .none kV doc pm an cdv ct) ⟨us, []⟩ = pure (ps.zip us)) : Cl P w K mg base k x ps fm := by
  obtain ⟨f, fd, D, g, F⟩ := h
  exact ⟨f, fd, F, g, D.kp, D.bindsN hb⟩
theorem clK_of {x : Str} {st : Stmt} {ps ks : List Str} {idx : List Nat} {k : Nat} {fm : ME} (h : ∃ f fd, DefT K x st f fd ∧ mg x = some (.ref f) ∧ FnG P w K mg base k f fd ps fm)
    (hb : ∀ (kV doc pm : Value) (an : Option Addr) (cdv ct : Value) (us : List Value), us.length = ks.length → bindArgs (PySem.W.fnOf x x (defArgs st) (defBody st) (defScope st) .none kV doc pm an cdv ct) ⟨[], ks.zip us⟩ = pure (ps.zip (pick idx us))) : ClK P w K mg base k x ps ks idx fm := by
  obtain ⟨f, fd, D, g, F⟩ := h
  exact ⟨f, fd, F, g, D.kp, D.kwb hb⟩
end
section
variable {X : Cx} {j k : Nat} {ps ks : List Str} {idx : List Nat} {fm : ME} {x : Str} {p pos : Pos} {e : Expr} {es : List Expr} {kws : List Keyword} {ms : MA}
theorem p_cl (c : Cl X.prog X.w X.K X.mg X.base k x ps fm) (hr : Room j X.A) (hgd : X.A.guards = some []) (ha : PA X (e :: es) (tA X.K ms)) (le : k ≤ j := by decide) (hg : Gl X x := by rfl) (hdb : (x == ("__debug__" : Str)) = false := by decide)
    (he : starEach (e :: es) X.env = (false, eval e X.env) :: starEach es X.env := by rfl) (hpl : (backTo pos (starEach es X.env)).any (·.1) = false := by rfl) : PE X (.Call (.Name x p) (e :: es) [] pos) (tE X.K (mCall fm ms)) := by
  obtain ⟨f, fd, F, h1, h2, h3⟩ := c.ex
  exact p_call F (hr.mono le) hgd h1 h2 h3 ha hg hdb he hpl
theorem p_clK (c : ClK X.prog X.w X.K X.mg X.base k x ps ks idx fm) (hr : Room j X.A) (hgd : X.A.guards = some []) (ha : PK X kws (tA X.K ms)) (le : k ≤ j := by decide) (hin : ∀ i ∈ idx, i < ks.length := by decide) (nd : idx.Nodup := by decide) (hg : Gl X x := by rfl)
    (hdb : (x == ("__debug__" : Str)) = false := by decide) (hall : (backToKw pos (keywordEach kws X.env)).all (·.1.isSome) = true := by rfl) (hks : (backToKw pos (keywordEach kws X.env)).filterMap (·.1) = ks := by rfl)
    (hpl : ((backTo pos (starEach [] X.env)).any (·.1) || (backToKw pos (keywordEach kws X.env)).any (·.1.isNone)) = false := by rfl) : PE X (.Call (.Name x p) [] kws pos) (tE X.K (mCallK fm ks.length idx ms)) := by
  obtain ⟨f, fd, F, h1, h2, h3⟩ := c.ex
  exact p_callK F (hr.mono le) hgd h1 h2 h3 ha hin nd hg hdb hall hks hpl
/-- a module's whole number, text -/
theorem p_gI {i : Int} (h : ∃ t, X.mg x = some (.int i t)) (hg : Gl X x := by rfl) (hd : (x == ("__debug__" : Str)) = false := by decide) : PE X (.Name x pos) (tE X.K (mC (.int i))) := by
  obtain ⟨t, h⟩ := h
  exact p_glob hg h (v := .int i) ⟨t, rfl⟩ (fun _ _ => .int i) hd
theorem p_gS {z : Str} (h : ∃ t, X.mg x = some (.str z t)) (hg : Gl X x := by rfl) (hd : (x == ("__debug__" : Str)) = false := by decide) : PE X (.Name x pos) (tE X.K (mC (.str z))) := by
  obtain ⟨t, h⟩ := h
  exact p_glob hg h (v := .str z) ⟨t, rfl⟩ (fun _ _ => .str z) hd
end
end PL
namespace PL
open PySem PySem.Spec PyProof.Rows L2
variable [TheW]
theorem def_one {K : PySem.W.Frag} {x y : Str} {st st2 : Stmt} {f : Addr} {fd fd2 : FuncData} (D : DefT K x st f fd) (E : DefT K y st2 f fd2) : fd = fd2 := by
  obtain ⟨oc, od, dV, kV, doc, pm, an, cdv, ct, osl, e, lk, _⟩ := D.ex
  obtain ⟨oc2, od2, dV2, kV2, doc2, pm2, an2, cdv2, ct2, osl2, e2, lk2, _⟩ := E.ex
  rw [lk] at lk2
  cases lk2
  rfl
end PL

/-! PL16: list(range(..)), {}, cuts by -1; the head's facts with module tuples. -/
namespace PL
open PySem PySem.Spec PyProof.Rows L2
variable [TheW]

section
variable {X : Cx} {a b : Expr} {ma mb : ME} {p p2 pos pos2 : Pos}
/-! ### {} -/
def mDic0 : ME := fun ρ => some (.nl (.M []), ρ)
theorem p_dic0 : PE X (.Dict [] [] pos) (tE X.K mDic0) := PE.of pe_dnewK fun σ H Q ⟨ρ, O, z, ρ', E, e1, k⟩ => by
  cases e1
  intro p n
  have keep : ∀ a o, H a = some o → upd H p (.dK []) a = some o := fun a o h => by rw [upd_ne (ne_of_none h n)]; exact h
  have R : ResOk X.K H O (upd H p (.dK [])) (fun a => O a ∨ a = p) (.ref p) (.nl (.M [])) := by
    refine ⟨keep, fun a h => h.imp id fun e => by rw [e]; exact n, fun _ h => .inl h, fun a h => ?_, p, rfl, .inr rfl, n, .inl ⟨[], upd_same, rfl, .nil⟩⟩
    rcases h with h | h
    · cases q : H a with
      | none => exact absurd q (E.tr a h)
      | some u => rw [keep a u q]; exact nofun
    · rw [h, upd_same]; exact nofun
  obtain ⟨E3, S3, V3⟩ := R.done E
  exact k _ _ _ E3 S3 V3
end

/-! ### t[::-1] -/
section
variable {P : Program} {w : World} {A : Around} {E : Value → Shared → Prop} {s : Shared}
end
def gRevAny : D → Option RV
  | .list ds => some (.nl (.L ds.reverse))
  | .tuple ds => some (.d (.tuple ds.reverse))
  | _ => none
section
variable {X : Cx} {e : Expr} {m : ME} {k : Nat} {p1 p2 p3 pos : Pos}
end
end PL

/-! PL17: repr, of the empty dict as well. -/
namespace PL
open PySem PySem.Spec PyProof.Rows L2
variable [TheW]
theorem lk_dic0 {K : PySem.W.Frag} {H : Hp} {O : Addr → Prop} {x : V} (h : Lk K H O x (.dict [])) : ∃ a, x = .ref a ∧ H a = some (.dK []) := by
  have none_t : ∀ {es : List (NestedKey × Addr × V)}, es ≠ [] → ([] : List (D × D)).map (fun p => keyD p.1) = es.map (fun e => some e.1) → False := fun {es} h0 h => by
    cases es with
    | nil => exact h0 rfl
    | cons k ks => cases h
  rcases h with h | ⟨a, o, rfl, e, h⟩
  · cases h with
    | @dk a ks _ h1 _ h3 _ =>
      cases ks with
      | nil => exact ⟨a, rfl, h1⟩
      | cons k ks => cases h3
    | @dt a es _ h0 h1 _ h3 _ _ => exact (none_t h0 h3).elim
  · cases o with
    | L xs => cases e
    | M kvs =>
      cases e
      rcases h with ⟨ks, h1, h3, _⟩ | ⟨es, h0, h1, h3, _⟩
      · cases ks with
        | nil => exact ⟨a, rfl, h1⟩
        | cons k ks => cases h3
      · exact (none_t h0 h3).elim
/-! repr of data that holds empty dicts -/
mutual
def zd : D → Bool
  | .list ds => zdAll ds
  | .tuple ds => zdAll ds
  | .dict kvs => kvs.isEmpty
  | .none => true
  | .bool _ => true
  | .int _ => true
  | .str _ => true
def zdAll : List D → Bool
  | [] => true
  | d :: ds => zd d && zdAll ds
end
mutual
inductive Dz (K : PySem.W.Frag) (H : Hp) : V → D → Prop
  | non : Dz K H .non .none
  | bl (b : Bool) : Dz K H (.bl b) (.bool b)
  | int (i : Int) : Dz K H (.int i) (.int i)
  | str (x : Str) : Dz K H (.str x) (.str x)
  | lst {a : Addr} {xs : List V} {ds : List D} : SqL K H a xs → DzAll K H xs ds → Dz K H (.ref a) (.list ds)
  | tup {a : Addr} {xs : List V} {ds : List D} : SqT K H a xs → DzAll K H xs ds → Dz K H (.ref a) (.tuple ds)
  | dic {a : Addr} : H a = some (.dK []) → Dz K H (.ref a) (.dict [])
inductive DzAll (K : PySem.W.Frag) (H : Hp) : List V → List D → Prop
  | nil : DzAll K H [] []
  | cons {v : V} {vs : List V} {d : D} {ds : List D} : Dz K H v d → DzAll K H vs ds → DzAll K H (v :: vs) (d :: ds)
end
section
variable {K : PySem.W.Frag} {H : Hp} {O : Addr → Prop}
mutual
theorem Fz.dz : ∀ (d : D) (x : V), zd d = true → Fz K H O x d → Dz K H x d
  | .none, _, _, h => by cases h; exact .non
  | .bool b, _, _, h => by cases h; exact .bl b
  | .int i, _, _, h => by cases h; exact .int i
  | .str x, _, _, h => by cases h; exact .str x
  | .list ds, _, c, h => by
    cases h with
    | lst h1 h2 => exact .lst h1.sq (FzAll.dz ds _ (by simpa only [zd] using c) h2)
  | .tuple ds, _, c, h => by
    cases h with
    | tup h1 h2 => exact .tup h1.sq (FzAll.dz ds _ (by simpa only [zd] using c) h2)
  | .dict kvs, _, c, h => by
    have e : kvs = [] := by
      cases kvs with
      | nil => rfl
      | cons p kvs => simp [zd] at c
    subst e
    obtain ⟨a, rfl, ha⟩ := lk_dic0 (.inl h)
    exact .dic ha
theorem FzAll.dz : ∀ (ds : List D) (xs : List V), zdAll ds = true → FzAll K H O xs ds → DzAll K H xs ds
  | [], _, _, h => by cases h; exact .nil
  | d :: ds, _, c, h => by
    cases h with
    | cons h1 h2 =>
      have c' : zd d = true ∧ zdAll ds = true := by simpa [zdAll] using c
      exact .cons (Fz.dz d _ c'.1 h1) (FzAll.dz ds _ c'.2 h2)
end
theorem lk_dz {d : D} {x : V} (c : zd d = true) (h : Lk K H O x d) : Dz K H x d := by
  cases d with
  | list ds =>
    obtain ⟨a, xs, rfl, h1, h2⟩ := lk_list h
    exact .lst h1 (FzAll.dz ds _ (by simpa only [zd] using c) h2)
  | dict kvs =>
    have e : kvs = [] := by
      cases kvs with
      | nil => rfl
      | cons p kvs => simp [zd] at c
    subst e
    obtain ⟨a, rfl, ha⟩ := lk_dic0 h
    exact .dic ha
  | none => exact Fz.dz _ _ c (lk_fz h rfl)
  | bool b => exact Fz.dz _ _ c (lk_fz h rfl)
  | int i => exact Fz.dz _ _ c (lk_fz h rfl)
  | str s => exact Fz.dz _ _ c (lk_fz h rfl)
  | tuple ds => exact Fz.dz _ _ c (lk_fz h rfl)
end
section
variable {X : Cx} {pins : List (Addr × Obj)} {σ : L2.St} {H : Hp} {s : Shared}
theorem dic0_at (I : Inv X pins σ H s) {a : Addr} (h : H a = some (.dK [])) : (a == sysModules) = false ∧ ∃ o es ep, s.heap.get? a = some o ∧ o.cls = .type "dict" ∧ o.data = .dict es ep ∧ es.toList = [] := by
  obtain ⟨_, y, vs, kv, o, es, ep, h1, h2, h3, _, h5, _⟩ := dk_of I.hok h
  cases kv
  have : es.toList = [] := by
    cases e : es.toList with
    | nil => rfl
    | cons z zs => rw [e] at h5; cases h5
  exact ⟨y, o, es, ep, h1, h2.1, h3, this⟩
mutual
theorem Dz.shows (I : Inv X pins σ H s) : ∀ (d : D) (v : V) (u : Value), Dz X.K H v d → RelV v u → d.showable = true → d.shown.length ≤ sizeLine →
    (∃ as, Reads s.heap u d as) ∧ ∃ bs, ReadAtMost s.heap d.depth bs ∧ ReprK X.prog X.w bs s.heap d.depth u d.shown
  | .none, _, _, h, r, _, _ => by
    cases h
    cases r
    exact ⟨⟨_, Reads.none⟩, [], (fun _ h => nomatch h), by simp only [PyData.shown]; exact .of_is ReprIs.none _ _ _⟩
  | .bool b, _, _, h, r, _, _ => by
    cases h
    cases r
    exact ⟨⟨_, Reads.bool b⟩, [], (fun _ h => nomatch h), by simp only [PyData.shown]; exact .of_is (ReprIs.bool b) _ _ _⟩
  | .int i, _, _, h, r, hs, _ => by
    cases h
    obtain ⟨t, rfl⟩ := r
    exact ⟨⟨_, Reads.int i t⟩, [], (fun _ h => nomatch h), by simp only [PyData.shown]; exact .of_is (ReprIs.int t (by simpa [PyData.showable] using hs)) _ _ _⟩
  | .str x, _, _, h, r, _, hz => by
    cases h
    obtain ⟨t, rfl⟩ := r
    exact ⟨⟨_, Reads.str x t⟩, [], (fun _ h => nomatch h), by simp only [PyData.shown]; exact .of_is (ReprIs.str x t (by simpa only [PyData.shown] using hz)) _ _ _⟩
  | .list ds, _, _, h, r, hs, hz => by
    cases h with
    | lst hq ha =>
      cases r
      obtain ⟨its, rv, ⟨o, n, ho, hc, _, hd⟩, _⟩ := I.list hq
      have hz' : (listText (PyData.shownAll ds)).length ≤ sizeLine := by simpa only [PyData.shown] using hz
      obtain ⟨⟨as, hr⟩, bs, hb, hk⟩ := Dz.showsAll I ds _ its ha rv (by simpa [PyData.showable] using hs) (fun t ht => Nat.le_trans (listText_mem_le ht) hz')
      have rd : Reads s.heap (.ref _) (.list ds) _ := .list ho hc hd hr
      have hna := not_mem_of_deeper rd (by simp only [PyData.depth]; omega) hb
      refine ⟨⟨_, rd⟩, _ :: bs, ReadAtMost.cons rd (by simp only [PyData.depth]; omega) hb, ?_⟩
      simp only [PyData.depth, PyData.shown]
      cases its with
      | nil =>
        have hr' : ReadsAll s.heap [] ds _ := hr
        cases hr'
        simp only [PyData.shownAll, listText_nil]
        exact ReprK.listEmpty ho hc hd
      | cons x l => exact ReprK.list ho hc hd hna (by simpa using hk.length_eq) (fun i y e => hk.item i y (by simpa using e))
  | .tuple ds, _, _, h, r, hs, hz => by
    cases h with
    | tup hq ha =>
      cases r
      obtain ⟨its, rv, ⟨o, ho, hc, n, hd⟩, _⟩ := I.tuple hq
      have hz' : (tupleText (PyData.shownAll ds)).length ≤ sizeLine := by simpa only [PyData.shown] using hz
      obtain ⟨⟨as, hr⟩, bs, hb, hk⟩ := Dz.showsAll I ds _ its ha rv (by simpa [PyData.showable] using hs) (fun t ht => Nat.le_trans (tupleText_mem_le ht) hz')
      have rd : Reads s.heap (.ref _) (.tuple ds) _ := .tuple ho hc hd hr
      have hna := not_mem_of_deeper rd (by simp only [PyData.depth]; omega) hb
      refine ⟨⟨_, rd⟩, _ :: bs, ReadAtMost.cons rd (by simp only [PyData.depth]; omega) hb, ?_⟩
      simp only [PyData.depth, PyData.shown]
      exact ReprK.tuple ho hc hd hna hk
  | .dict kvs, _, _, h, r, _, _ => by
    cases h with
    | dic ha =>
      cases r
      obtain ⟨hsys, o, es, ep, h1, h2, h3, h4⟩ := dic0_at I ha
      have rd : Reads s.heap (.ref _) (.dict []) _ := .dict (as := []) (bs := []) h1 h2 h3 (by rw [h4]; exact .nil) (by rw [h4]; exact .nil)
      refine ⟨⟨_, rd⟩, _ :: [], ReadAtMost.cons (n := 0) rd (Nat.zero_le _) (fun _ h => nomatch h), ?_⟩
      simp only [PyData.depth, PyData.shown, PyData.depthKv, PyData.shownKv]
      exact ReprK.dict h1 h2 h3 hsys (List.not_mem_nil) (by rw [h4]; exact .nil)
theorem Dz.showsAll (I : Inv X pins σ H s) : ∀ (ds : List D) (vs : List V) (us : List Value), DzAll X.K H vs ds → Vals vs us → PyData.showableAll ds = true → (∀ t ∈ PyData.shownAll ds, t.length ≤ sizeLine) →
    (∃ as, ReadsAll s.heap us ds as) ∧ ∃ bs, ReadAtMost s.heap (PyData.depthAll ds) bs ∧ ReprAllK X.prog X.w bs s.heap (PyData.depthAll ds) us (PyData.shownAll ds)
  | [], _, _, h, r, _, _ => by
    cases h
    cases r
    exact ⟨⟨_, ReadsAll.nil⟩, [], (fun _ h => nomatch h), by simp only [PyData.shownAll]; exact .nil⟩
  | d :: ds, _, _, h, r, hs, hz => by
    cases h with
    | cons h1 h2 =>
      cases r with
      | cons r1 r2 =>
        have hs' : d.showable = true ∧ PyData.showableAll ds = true := by simpa [PyData.showableAll] using hs
        obtain ⟨⟨as, q1⟩, b1, hb1, k1⟩ := Dz.shows I d _ _ h1 r1 hs'.1 (hz _ (by simp only [PyData.shownAll]; exact List.mem_cons_self ..))
        obtain ⟨⟨as2, q2⟩, b2, hb2, k2⟩ := Dz.showsAll I ds _ _ h2 r2 hs'.2 (fun t ht => hz t (by simp only [PyData.shownAll]; exact List.mem_cons_of_mem _ ht))
        refine ⟨⟨_, ReadsAll.cons q1 q2⟩, b1 ++ b2, ?_, ?_⟩
        · intro b hm
          simp only [PyData.depthAll]
          rcases List.mem_append.mp hm with hm | hm
          · obtain ⟨d', as', r', hd'⟩ := hb1 b hm
            exact ⟨d', as', r', Nat.le_trans hd' (Nat.le_max_left _ _)⟩
          · obtain ⟨d', as', r', hd'⟩ := hb2 b hm
            exact ⟨d', as', r', Nat.le_trans hd' (Nat.le_max_right _ _)⟩
        · simp only [PyData.depthAll, PyData.shownAll]
          exact .cons ((k1.more fun b hb => List.mem_append_left _ hb).level_le (Nat.le_max_left _ _)) (k2.more_le (fun b hb => List.mem_append_right _ hb) (Nat.le_max_right _ _))
end
theorem Dz.by_ (I : Inv X pins σ H s) {a : Addr} {d : D} (h : Dz X.K H (.ref a) d) (hs : d.showable = true) (hz : d.shown.length ≤ sizeLine) : ∃ T idr, ShowsBy X.prog X.w s.heap a d T idr := by
  cases h with
  | @lst _ xs ds hq ha =>
    obtain ⟨its, rv, ⟨o, n, ho, hc, _, hd⟩, _⟩ := I.list hq
    have hz' : (listText (PyData.shownAll ds)).length ≤ sizeLine := by simpa only [PyData.shown] using hz
    obtain ⟨⟨as, hr⟩, bs, hb, hk⟩ := Dz.showsAll I ds _ its ha rv (by simpa [PyData.showable] using hs) (fun t ht => Nat.le_trans (listText_mem_le ht) hz')
    have rd : Reads s.heap (.ref a) (.list ds) _ := .list ho hc hd hr
    have hna : a ∉ bs := not_mem_of_deeper rd (by simp only [PyData.depth]; omega) hb
    refine ⟨"list", "list.__repr__", F.slot_list_repr.toG, F.slot_list_str, F.slot_list_format, fun s hk0 => ⟨o, hk0 _ _ ho, hc⟩, fun A E s Q hg hu hk0 hQ => ?_⟩
    simp only [PyData.depth] at hu
    simp only [PyData.shown] at hQ
    cases its with
    | nil =>
      have hr' : ReadsAll _ [] ds _ := hr
      cases hr'
      simp only [PyData.shownAll, listText_nil] at hQ
      exact call_list_repr_empty ⟨o, hk0 _ _ ho, hc⟩ (hk0 _ _ ho) hd (hQ s.heap _ _ fun _ _ e => e)
    | cons x l => exact call_list_reprK ho hc hd hna (by simpa using hk.length_eq) (fun i y e => hk.item i y (by simpa using e)) hg (fun b _ => Clear.nil b) hu hk0 hQ hz'
  | @tup _ xs ds hq ha =>
    obtain ⟨its, rv, ⟨o, ho, hc, n, hd⟩, _⟩ := I.tuple hq
    have hz' : (tupleText (PyData.shownAll ds)).length ≤ sizeLine := by simpa only [PyData.shown] using hz
    obtain ⟨⟨as, hr⟩, bs, hb, hk⟩ := Dz.showsAll I ds _ its ha rv (by simpa [PyData.showable] using hs) (fun t ht => Nat.le_trans (tupleText_mem_le ht) hz')
    have rd : Reads s.heap (.ref a) (.tuple ds) _ := .tuple ho hc hd hr
    have hna : a ∉ bs := not_mem_of_deeper rd (by simp only [PyData.depth]; omega) hb
    refine ⟨"tuple", "tuple.__repr__", F.slot_tuple_repr, F.slot_tuple_str, F.slot_tuple_format, fun s hk0 => ⟨o, hk0 _ _ ho, hc⟩, fun A E s Q hg hu hk0 hQ => ?_⟩
    simp only [PyData.depth] at hu
    simp only [PyData.shown] at hQ
    exact call_tuple_reprK ho hc hd hna hk hg (fun b _ => Clear.nil b) hu hk0 hQ hz'
  | dic ha =>
    obtain ⟨hsys, o, es, ep, h1, h2, h3, h4⟩ := dic0_at I ha
    refine ⟨"dict", "dict.__repr__", F.slot_dict_repr, F.slot_dict_str, F.slot_dict_format, fun s hk0 => ⟨o, hk0 _ _ h1, h2⟩, fun A E s Q hg hu hk0 hQ => ?_⟩
    simp only [PyData.depth, PyData.depthKv] at hu
    simp only [PyData.shown, PyData.shownKv] at hQ
    exact call_dict_reprK (as := []) (d := 0) h1 h2 h3 hsys (List.not_mem_nil) (by rw [h4]; exact .nil) hg (fun b _ => Clear.nil b) hu hk0 hQ (by rw [sizeLine_eq]; decide +kernel)
end
def showsZ (d : D) : Bool := zd d && decide (d.depth ≤ 64) && d.showable && decide (d.shown.length ≤ sizeLine)
def rReprE (K : PySem.W.Frag) : List V → Hp → VK → Prop := fun xs H Q => ∃ x d, xs = [x] ∧ Dz K H x d ∧ showsZ d = true ∧ Q (.str d.shown) H
theorem call_reprE {X : Cx} (hg : X.A.guards = some []) (hu : X.A.units + 66 < cLine) : CallR X (.builtin "repr") (rReprE X.K) := by
  rintro pins s σ H xs us Q I r ⟨x, d, rfl, hd, hs, q⟩
  obtain ⟨u, rfl, rx⟩ := vals1 r
  unfold showsZ at hs
  rw [Bool.and_eq_true, Bool.and_eq_true, Bool.and_eq_true, decide_eq_true_eq, decide_eq_true_eq] at hs
  obtain ⟨⟨⟨_, h1⟩, h2⟩, h3⟩ := hs
  have fin : ∀ (t : Tok) (k : Nat), EP X pins σ Q (.str d.shown t) { s with toks := k } := fun t k => ⟨.str d.shown, H, I.tok k, ⟨t, rfl⟩, q⟩
  have ref : ∀ a, x = .ref a → wpAny (model X.prog X.w) X.A (call (.builtin "repr") [u]) (EP X pins σ Q) X.xe s := fun a e => by
    subst e
    cases (show u = Value.ref a from rx)
    obtain ⟨T, idr, S⟩ := hd.by_ I h2 h3
    exact call_repr_slot (by omega) (S.typeIs s fun _ _ e => e) S.slotRepr (S.call X.A.in1 X.xe s _ hg (by show X.A.units + 1 + d.depth < cLine; omega) (fun _ _ e => e)
      fun h' w tk hk => ⟨_, _, rfl, ⟨.str d.shown, H, (I.kept hk : Inv X pins σ H { s with heap := h', toks := tk }), ⟨w, rfl⟩, q⟩⟩)
  cases hd with
  | non =>
    cases (show u = Value.none from rx)
    exact PySem.P.repr_of_none (fin _ _)
  | bl b =>
    cases (show u = Value.bool b from rx)
    refine PySem.P.repr_of_bool ?_
    have := fin s.toks (s.toks + 1)
    cases b <;> exact this
  | int i =>
    obtain ⟨t, rfl⟩ := rx
    exact PySem.P.repr_of_int (by simpa [PyData.showable] using h2) (fin _ _)
  | str z =>
    obtain ⟨t, rfl⟩ := rx
    exact PySem.P.repr_of_str (fin _ _) h3
  | lst h _ => exact ref _ rfl
  | tup h _ => exact ref _ rfl
  | dic h => exact ref _ rfl
def gReprZ : List D → Option RV
  | [d] => if showsZ d = true then some (.d (.str d.shown)) else none
  | _ => none
def gReprE : List D → Option RV
  | [.dict []] => some (.d (.str (PyData.dict []).shown))
  | ds => gReprZ ds
theorem on_reprE {K : PySem.W.Frag} : OpN K (rReprE K) gReprE := by
  intro H O xs ds z Q tr h e k
  unfold gReprE at e
  split at e
  · cases e
    obtain ⟨x, rfl, h1⟩ := lk1 h
    obtain ⟨a, rfl, hd⟩ := lk_dic0 h1
    exact ⟨_, .dict [], rfl, .dic hd, by rw [show showsZ (.dict []) = true from by unfold showsZ; rw [sizeLine_eq]; decide +kernel], k _ _ _ (.same tr (.str _))⟩
  · unfold gReprZ at e
    split at e
    · rename_i d _
      split at e
      · rename_i hs
        cases e
        obtain ⟨x, rfl, h1⟩ := lk1 h
        have hc : zd d = true := by
          unfold showsZ at hs
          rw [Bool.and_eq_true, Bool.and_eq_true, Bool.and_eq_true] at hs
          exact hs.1.1.1
        exact ⟨x, d, rfl, lk_dz hc h1, hs, k _ _ _ (.same tr (.str _))⟩
      · cases e
    · cases e
mutual
theorem lay_zd : ∀ d : D, d.canLay0 = true → zd d = true
  | .none, _ => rfl
  | .bool _, _ => rfl
  | .int _, _ => rfl
  | .str _, _ => rfl
  | .list ds, h => by
    have := lay_zdAll ds (by simpa [PyData.canLay0] using h)
    simpa only [zd] using this
  | .tuple ds, h => by
    have := lay_zdAll ds (by simpa [PyData.canLay0] using h)
    simpa only [zd] using this
  | .dict _, h => by simp [PyData.canLay0] at h
theorem lay_zdAll : ∀ ds : List D, PyData.canLayAll0 ds = true → zdAll ds = true
  | [], _ => rfl
  | d :: ds, h => by
    have h : d.canLay0 = true ∧ PyData.canLayAll0 ds = true := by simpa [PyData.canLayAll0] using h
    show (zd d && zdAll ds) = true
    rw [lay_zd d h.1, lay_zdAll ds h.2]
    rfl
end
theorem showsZ_of {d : D} (h : showsD d = true) : showsZ d = true := by
  unfold showsD at h
  rw [Bool.and_eq_true, Bool.and_eq_true] at h
  obtain ⟨⟨h1, h2⟩, h3⟩ := h
  obtain ⟨dl, dd⟩ := depth_le h1
  unfold showsZ
  rw [lay_zd d dl, decide_eq_true dd, h2, h3]
  rfl
end PL

/-! PLG: what the printed walks name. -/
namespace PL
open PySem PySem.Spec PyProof.Rows L2
variable [TheW]
theorem bt_len : bootBuiltins "len" = some (.builtin "len") := by decide +kernel
theorem bt_sum : bootBuiltins "sum" = some (.builtin "sum") := by decide +kernel
theorem bt_max : bootBuiltins "max" = some (.builtin "max") := by decide +kernel
theorem bt_min : bootBuiltins "min" = some (.builtin "min") := by decide +kernel
theorem bt_all : bootBuiltins "all" = some (.builtin "all") := by decide +kernel
theorem bt_sorted : bootBuiltins "sorted" = some (.builtin "sorted") := by decide +kernel
theorem bt_repr : bootBuiltins "repr" = some (.builtin "repr") := by decide +kernel
theorem bt_int : bootBuiltins "int" = some (.type "int") := by decide +kernel
theorem bt_str : bootBuiltins "str" = some (.type "str") := by decide +kernel
theorem bt_list : bootBuiltins "list" = some (.type "list") := by decide +kernel
theorem bt_tuple : bootBuiltins "tuple" = some (.type "tuple") := by decide +kernel
theorem pa_list : PlainAttrs "list" := PySem.F.plainAttrs_list
theorem pa_tuple : PlainAttrs "tuple" := PySem.F.plainAttrs_tuple
theorem sl_append : Slot "list" "append" "list.append" := PySem.F.slot_list_append
theorem sl_extend : Slot "list" "extend" "list.extend" := PySem.F.slot_list_extend
theorem sl_pop : Slot "list" "pop" "list.pop" := PySem.F.slot_list_pop
theorem sl_indexT : Slot "tuple" "index" "tuple.index" := PySem.F.slot_tuple_index
theorem ty_append : typeOf (.builtin "list.append") = pure (.type "method_descriptor") := PySem.F.type_list_append
theorem ty_extend : typeOf (.builtin "list.extend") = pure (.type "method_descriptor") := PySem.F.type_list_extend
theorem ty_pop : typeOf (.builtin "list.pop") = pure (.type "method_descriptor") := PySem.F.type_list_pop
theorem ty_indexT : typeOf (.builtin "tuple.index") = pure (.type "method_descriptor") := PySem.F.type_tuple_index
end PL

/-! PL18: constants of the module that are tuples. -/
namespace PL
open PySem PySem.Spec PyProof.Rows L2
variable [TheW]
mutual
/-- u stands for the data d in what is known for good -/
def cB (K : PySem.W.Frag) : D → Value → Bool
  | .none, u => match u with
    | .none => true
    | _ => false
  | .bool b, u => match u with
    | .bool c => b == c
    | _ => false
  | .int i, u => match u with
    | .int j _ => decide (i = j)
    | _ => false
  | .str z, u => match u with
    | .str y _ => decide (z = y)
    | _ => false
  | .tuple ds, u => match u with
    | .ref a => match K.lookup a with
      | some ⟨.type c, none, .seq its _, _⟩ => decide (c = "tuple") && (decide (its.size ≤ sizeLine) && cBs K ds its.toList)
      | _ => false
    | _ => false
  | .list _, _ => false
  | .dict _, _ => false
def cBs (K : PySem.W.Frag) : List D → List Value → Bool
  | [], us => us.isEmpty
  | d :: ds, us => match us with
    | [] => false
    | u :: us => cB K d u && cBs K ds us
end
/-- the constant x of the module -/
def cC (K : PySem.W.Frag) (x : Str) (d : D) : Bool := match PySem.W.nsIn K mainGlobals x with
  | some (some u) => cB K d u
  | _ => false
/-! ### the hook -/
abbrev AlP : Type := He.AlD × Bool
def obsP (fa : List He.Fa) (fn : List He.DefD) (cs : List (Str × D)) (K : PySem.W.Frag) : AlP := (He.obsD fa fn K, cs.all fun c => cC K c.1 c.2)
def valP (fn : List He.DefD) : AlP := (He.valD fn, true)
def obsPG (n : Nat) (fa : List He.Fa) (fn : List He.DefD) (cs : List (Str × D)) (g : Addr → Option Obj) : AlP := obsP fa fn cs (He.frG g (He.asD g n))
def SaysP (fa : List He.Fa) (fn : List He.DefD) (cs : List (Str × D)) (K : PySem.W.Frag) : Prop := obsP fa fn cs K = valP fn
def hookP (n : Nat) (fa : List He.Fa) (fn : List He.DefD) (cs : List (Str × D)) : PySem.W.Hook where
  α := AlP
  obs := fun s => obsPG n fa fn cs s.heap.get?
  val := fun _ => valP fn
  says := fun _ h => ∃ K : PySem.W.Frag, K.In h ∧ SaysP fa fn cs K
  of := fun _ _ e => ⟨_, He.frG_in, e⟩
  keeps := fun _ _ _ ⟨K, hK, c⟩ k => ⟨K, PySem.W.Frag.In.keeps hK k, c⟩
section
variable {fa : List He.Fa} {fn : List He.DefD} {cs : List (Str × D)} {K : PySem.W.Frag}
theorem SaysP.d (c : SaysP fa fn cs K) : He.SaysD fa fn K := congrArg (fun z : AlP => z.1) c
end
end PL

/-! PL19: arguments that a callee walks over are frozen; the source of the second clause. -/
namespace PL
open PySem PySem.Spec PyProof.Rows L2
variable [TheW]
theorem p_fr {X : Cx} {e : Expr} {m : ME} (h : PE X e (tE X.K m)) : PE X e (tE X.K (mOf (mF m))) :=
  PE.of (pd_of h) fun σ H Q ⟨ρ,O,r,ρ',E,e1,k⟩ => by
    obtain ⟨⟨d,ρ1⟩,e2,e3⟩ := Option.map_eq_some_iff.mp e1
    cases e3
    exact ⟨ρ,O,d,ρ1,E,e2,fun x H' O' E' S R => k x H' O' E' S R⟩
section
variable {X : Cx} {elt tg iter tg1 iter1 : Expr} {ifs ifs1 : List Expr} {scope : Scope} {own : List (Str × Nat)} {vs1 : List Nat} {pos spos : Pos} {mi mi1 : MDs} {g g1 : MG} {tt tt1 : MT} {m : MD} {F : Hp → (Addr → Prop) → V → D → Prop}
end
end PL

/-! PL20: enumerate of a tuple. -/
namespace PL
open PySem PySem.Spec PyProof.Rows L2
variable [TheW]
theorem draws_tuple {prog : Program} {w : World} {A : Around} (hh : A.handled = none) (it l : Addr) (hne : l ≠ it) (items : Array Value) :
    Draws prog w A it [it, l] items.size (fun i v => items[i]? = some v) (fun i h => h.IsTupleIter it l i ∧ h.IsTuple l items) where
  live := fun _ _ st => let ⟨o, ho, _⟩ := st.1; ⟨o, ho⟩
  frame := fun _ _ _ st hk => ⟨st.1.at fun o e => hk it (by simp) o e, st.2.at fun o e => hk l (by simp) o e⟩
  item := fun i s Q E hi st hQ => by
    refine RZ.nextOf_tuple_item st.1 st.2 (x := items[i]) (by simp [hi]) fun h' hit' hs' => ?_
    exact hQ _ h' s.toks (by simp [hi]) ⟨hit', st.2.extBut hs'.extBut hne⟩ hs'
  done := fun s Q E st hE => RZ.nextOf_tuple_end hh st.1 st.2 (by simp) hE
open AutoSeq1 (wpAny_loadPart') in
theorem meets_enumerate_newT (l : Addr) (items : Array Value) (n : Nat) (dct : Option Addr) (sl : Array (Option Value)) :
    Meets (Builtin.«enumerate.__new__» ⟨[.type "enumerate", .ref l], []⟩) (fun _ R s => s.heap.get? l = some { cls := .type "tuple", dict := dct, data := .seq items n, slots := sl } ∧
      R (.ok (.ret (.ref (s.heap.push { cls := .type "tuple_iterator", data := .fields #[.ref l, .int 0 0] }).objs.size)))
        { s with heap := (s.heap.push { cls := .type "tuple_iterator", data := .fields #[.ref l, .int 0 0] }).push { cls := .type "enumerate", data := .fields #[.none, .bool false, .ref s.heap.objs.size, rawInt 0, .none, .none] } }) :=
  .of_wp fun prog w A R s h => by
    obtain ⟨hp, g, d, tk, os⟩ := s; obtain ⟨hl, h⟩ := h
    have hsub := sub_enumerate
    have hL : Heap.IsTuple (Shared.heap ⟨hp, g, d, tk, os⟩) l items := ⟨_, hl, rfl, n, rfl⟩
    wp_walk using wpAny_loadPart' hl
    refine wpAny_stack_any fun st => wpAny_pure ?_
    split
    · rename_i c _ _ _ _ _
      cases (c == Value.type "enumerate")
      · wp_walk using wpAny_loadPart' hl, wpAny_pyIter_tuple hL
        exact ⟨_, rfl, h⟩
      · wp_walk using wpAny_loadPart' hl, wpAny_pyIter_tuple hL
        exact ⟨_, rfl, h⟩
    · wp_walk using wpAny_loadPart' hl, wpAny_pyIter_tuple hL
      exact ⟨_, rfl, h⟩
theorem call_enumerate_tuple {prog : Program} {w : World} {A : Around} {E : Value → Shared → Prop} {s : Shared} {l : Addr} {items : Array Value} {Q : Value → Shared → Prop} (hL : s.heap.IsTuple l items)
    (h : ∀ h', IsEnum h' (s.heap.objs.size + 1) s.heap.objs.size 0 .none → h'.IsTupleIter s.heap.objs.size l 0 → h'.objs.size = s.heap.objs.size + 2 →
      (∀ b o, s.heap.get? b = some o → h'.get? b = some o) → Q (.ref (s.heap.objs.size + 1)) { s with heap := h' }) :
    wpAny (model prog w) A (call (.type "enumerate") [.ref l]) Q E s := by
  obtain ⟨⟨c, dct, dt, sl⟩, hl, hc, n, hd⟩ := hL
  replace hc : c = .type "tuple" := hc
  replace hd : dt = .seq items n := hd
  subst hc hd
  refine callType_new F.called_enumerate (by decide) (F.typeCall_enumerate_1 _) (F.newCall_enumerate_1 _) (fun obj => F.args_object_init_2 obj _) F.entry_enumerate_new
    (meets_enumerate_newT l items n dct sl) ⟨hl, ?_⟩
  have hz : (s.heap.push { cls := .type "tuple_iterator", data := .fields #[.ref l, .int 0 0] }).objs.size = s.heap.objs.size + 1 := Heap.size_push ..
  show _ ∧ _
  rw [hz]
  have he : IsEnum ((s.heap.push { cls := .type "tuple_iterator", data := .fields #[.ref l, .int 0 0] }).push
      { cls := .type "enumerate", data := .fields #[.none, .bool false, .ref s.heap.objs.size, rawInt 0, .none, .none] }) (s.heap.objs.size + 1) s.heap.objs.size 0 .none := by
    have := Heap.get?_push_size (s.heap.push { cls := .type "tuple_iterator", data := .fields #[.ref l, .int 0 0] })
      (o := { cls := .type "enumerate", data := .fields #[.none, .bool false, .ref s.heap.objs.size, rawInt 0, .none, .none] }) rfl
    rw [hz] at this; exact this
  refine ⟨⟨_, he, rfl⟩, h _ he ⟨_, Heap.get?_push_of_some _ (Heap.get?_push_size _ rfl), rfl, rfl⟩ (by rw [Heap.size_push, hz]) fun b o x => Heap.get?_push_of_some _ (Heap.get?_push_of_some _ x)⟩
theorem pyNext_enumT_end {prog : Program} {w : World} {A : Around} {E : Value → Shared → Prop} {s : Shared} {e it l : Addr} {n : Nat} {items : Array Value} {i : Int} {old : Value} {Q : Option Value → Shared → Prop}
    (hh : A.handled = none) (he : IsEnum s.heap e it i old) (hit : s.heap.IsTupleIter it l n) (hl : s.heap.IsTuple l items) (hx : items[n]? = none)
    (hQ : ∀ h', Heap.ExtBut it s.heap h' → Q none { s with heap := h' }) : wpAny (model prog w) A (pyNext (.ref e)) Q E s := by
  have hT : s.TypeIs (.ref e) "enumerate" := ⟨_, he, rfl⟩
  unfold pyNext
  refine wpAny_bind (wpAny_attempt (wpAny_callSpecial?_slot (name := Str.ofString "__next__") hT F.slot_enumerate_next
    (wpAny_call_entry F.slot_enumerate_next hT F.entry_enumerate_next ?_ (F.args_enumerate_next_1 _))))
  show wpAny _ _ (field (.ref e) 2 >>= _) _ _ _
  refine wpAny_bind (wpAny_field he rfl (x := .ref it) rfl ?_)
  refine wpAny_bind (RZ.nextOf_tuple_end (show A.in1.handled = none from hh) hit hl hx fun h' x he' hx' => ?_)
  obtain ⟨o, ho, hc⟩ := hx'
  refine wpAny_bind (wpAny_isInstance (T := "StopIteration") (b := true) ⟨o, ho, hc⟩ isSubtype_stop ?_)
  exact wpAny_pure (hQ _ he')
/-- the tuple at a, each item in a new pair -/
def IteT (K : PySem.W.Frag) (a : Addr) : It :=
  ⟨fun i H => ∃ (xs : List V) (x : V), SqT K H a xs ∧ xs[i]? = some x, fun i H v H' => ∃ T x, v = .ref T ∧ H T = none ∧ H' = upd H T (.tup [.int (i : Nat), x]) ∧ ∀ xs, SqT K H a xs → xs[i]? = some x, fun i H => ∃ xs : List V, SqT K H a xs ∧ xs.length ≤ i⟩
theorem turn_enumT {P : Program} {w : World} {K : PySem.W.Frag} {elts : List Expr} {kk : Nat} {tpos : Pos} (a e it : Addr) :
    Turn P w K (.Tuple elts kk tpos) (IteT K a) [e, it] e (fun i h => (∃ old, IsEnum h e it ((i : Nat) : Int) old) ∧ h.IsTupleIter it a i ∧ e ≠ it) where
  mem := by simp
  obj := fun i h st b hb => by
    obtain ⟨⟨old, he⟩, ⟨o, ho, hc, hd⟩, _⟩ := st
    have e' : b = e ∨ b = it := by simpa using hb
    rcases e' with z | z
    · rw [z]; exact ⟨_, he, fun v q => nomatch q⟩
    · rw [z]; exact ⟨o, ho, fun v q => by rw [hd] at q; cases q⟩
  keep := fun i h h' st k => let ⟨⟨old, he⟩, hi, hne⟩ := st; ⟨⟨old, k e (by simp) _ he⟩, hi.at fun o q => k it (by simp) o q, hne⟩
  item := by
    intro X hP hw hK hc i pins s σ H E I hf st hg
    subst hP hw hK
    obtain ⟨⟨old, he⟩, hit, hne⟩ := st
    obtain ⟨xs, x, hq, hx⟩ := hg
    obtain ⟨its, rv, p, hz⟩ := I.tuple hq
    obtain ⟨u, hu, ru⟩ := rv.get hx
    have hel : e < s.heap.objs.size := Heap.lt_size he
    have hil : it < s.heap.objs.size := by obtain ⟨_, q, _⟩ := hit; exact Heap.lt_size q
    have pT : s.heap.IsTuple a its.toArray := p
    have nea : e ≠ a := fun z => by
      obtain ⟨o, ho, hc', _⟩ := pT
      rw [← z, he] at ho
      cases ho
      exact absurd (Value.type.inj hc') (by decide)
    have nia : a ≠ it := fun z => by
      obtain ⟨o, ho, hc', _⟩ := pT
      obtain ⟨o2, ho2, hc2, _⟩ := hit
      rw [z, ho2] at ho
      cases ho
      rw [hc2] at hc'
      exact absurd (Value.type.inj hc') (by decide)
    have hlt : i < its.toArray.size := by
      have := (List.getElem?_eq_some_iff.mp hu).1
      simpa using this
    refine wpAny_pyNext_enum_itemD (draws_tuple (show X.A.in1.handled = none from I.ok.hd hc) it a nia its.toArray) he ⟨hit, pT⟩ hlt hne (by simp [hne, nea]) fun u' h' tk hu' ho hit' hT hsz hk => ?_
    have eu : u' = u := by
      have hu2 : its.toArray[i]? = some u := by simpa using hu
      rw [hu2] at hu'
      cases hu'
      rfl
    subst eu
    refine ⟨_, rfl, wpAny_letOwnedTupleGo_enum (s := { s with heap := h', toks := tk + 1 }) ho fun h'' he' sb => ?_⟩
    have hT2 : h''.get? s.heap.objs.size = some { cls := .type "tuple", data := .seq #[.int i tk, u'] } := (sb.2 _ (Nat.ne_of_gt hel)).trans hT
    have new : ObjOk X.prog X.w (upd H s.heap.objs.size (.tup [.int (i : Nat), x])) h'' s.heap.objs.size (.tup [.int (i : Nat), x]) :=
      ⟨by show 2 ≤ sizeLine; decide, [.int i tk, u'], .cons ⟨_, rfl⟩ (.cons ru .nil), ⟨_, hT2, rfl, _, rfl⟩⟩
    have I1 : Inv X pins σ (upd H s.heap.objs.size (.tup [.int (i : Nat), x])) { s with heap := h'', toks := tk + 1 } :=
      I.turnedNew (ch := [e, it]) (fun b ob hb q => (sb.2 b (fun z => hb (by simp [z]))).trans (hk b ob (fun z => hb (by simp [z])) (fun z => hb (by simp [z])) q)) hf (Nat.le_refl _) new
    refine ⟨.ref s.heap.objs.size, _, I1, rfl, ⟨_, x, rfl, I.hok.fresh (Nat.le_refl _), rfl, fun ys hy => by rw [I.tuple_inj hy hq]; exact hx⟩, ⟨⟨u', ?_⟩, hit'.1.at fun o q => (sb.2 it (Ne.symm hne)).trans q, hne⟩, fun b hb => ?_⟩
    · have e1 : ((i + 1 : Nat) : Int) = (i : Int) + 1 := by omega
      rw [e1]; exact he'
    · have hb' : b < s.heap.objs.size := by
        have e' : b = e ∨ b = it := by simpa using hb
        rcases e' with z | z
        · rw [z]; exact hel
        · rw [z]; exact hil
      rw [upd_ne (Nat.ne_of_lt hb')]
      exact (hf b hb).1
  done := by
    intro X hP hw hK hc i pins s σ H E I hf st hg
    subst hP hw hK
    obtain ⟨⟨old, he⟩, hit, hne⟩ := st
    obtain ⟨xs, hq, hx⟩ := hg
    obtain ⟨its, rv, p, hz⟩ := I.tuple hq
    obtain ⟨f0, f1, f2, f3, f4, f5⟩ := hf it (by simp)
    have hl := rv.length
    exact pyNext_enumT_end (I.ok.hd hc) he hit p (by simp; omega) fun h' eb => ⟨rfl, I.turned (t' := s.toks) (fun b o hb q => eb b o hb q) f0 f1 f3 f4 f5⟩
  self := fun A i s Q E st h => let ⟨⟨_, he⟩, _⟩ := st; wpAny_pyIter_enum he h
def iEnumT (K : PySem.W.Frag) (ta : TA) : TI := fun σ H R => ta σ H fun vs H1 => ∃ a xs, vs = [.ref a] ∧ SqT K H1 a xs ∧ R (IteT K a) H1
theorem pi_enumT {X : Cx} {e : Expr} {ta : TA} {p pos tpos : Pos} {elts : List Expr} {kk : Nat} (hg : Gl X "enumerate") (hm : X.mg "enumerate" = none) (ha : PA X [e] ta) (hs : starEach [e] X.env = [(false, eval e X.env)] := by rfl) :
    PI X (.Tuple elts kk tpos) (.Call (.Name "enumerate" p) [e] [] pos) (iEnumT X.K ta) := by
  refine ⟨fun pins s σ H R I h => ?_⟩
  refine Call_ (ld_blt I hg hm boot_enumerate (PyProof.Rows.callWith_type1 (thn (ha.run pos pins s σ H _ I h) fun us s1 ⟨vs, H1, I1, r1, q1⟩ => ?_) hs rfl))
  obtain ⟨a, xs, ex, hq, q⟩ := q1
  subst ex
  cases r1 with
  | cons r rr =>
    cases rr
    cases r
    obtain ⟨its, rv, p', hz⟩ := I1.tuple hq
    refine call_enumerate_tuple (show s1.heap.IsTuple a its.toArray from p') fun h' he hit hsz hk => wpAny_pyIter_enum he ?_
    have I2 : Inv X pins σ H1 { s1 with heap := h' } := I1.kept (t' := s1.toks) hk
    refine ⟨s1.heap.objs.size + 1, [s1.heap.objs.size + 1, s1.heap.objs.size], _, _, H1, rfl, I2, turn_enumT a (s1.heap.objs.size + 1) s1.heap.objs.size, ⟨⟨.none, he⟩, hit, Nat.succ_ne_self _⟩, fun b hb => ?_, q⟩
    have e' : b = s1.heap.objs.size + 1 ∨ b = s1.heap.objs.size := by simpa using hb
    have hle : s1.heap.objs.size ≤ b := by
      rcases e' with z | z
      · rw [z]; exact Nat.le_add_right _ _
      · rw [z]; exact Nat.le_refl _
    exact I1.fpOk hle (I1.hok.fresh hle)
theorem src_enumT {K : PySem.W.Frag} {a : Addr} {ds : List D} : ISrc K (Fy K) (IteT K a) (fun H O => Fz K H O (.ref a) (.tuple ds)) (enumD ds) where
  stop := fun i H O f h => by
    cases f with
    | tup h1 h2 => exact ⟨_, h1.sq, by rw [h2.length]; simpa [enumD] using h⟩
  go := fun i H O f h => by
    have h' : i < ds.length := by simpa [enumD] using h
    cases f with
    | tup h1 h2 =>
      obtain ⟨x, e, _⟩ := h2.get (List.getElem?_eq_getElem h')
      exact ⟨_, x, h1.sq, e⟩
  yld := fun i H O x H' f tr h y => by
    have h' : i < ds.length := by simpa [enumD] using h
    obtain ⟨T, v, rfl, n, rfl, y⟩ := y
    cases f with
    | tup h1 h2 =>
      obtain ⟨z, e, fz⟩ := h2.get (List.getElem?_eq_getElem h')
      have := (y _ h1.sq).symm.trans e
      cases this
      obtain ⟨q1, q2⟩ := new_pair n (.cons (.int (i : Nat)) (.cons fz .nil))
      exact ⟨q1, _, by unfold enumD; rw [List.getElem?_mapIdx, List.getElem?_eq_getElem h']; rfl, q2⟩
  mv := fun H O H' O' f m => Fz.mv m _ _ f
def mEnumT (ms : MDs) : MDs := fun ρ => (ms ρ).bind fun p => match p.1 with
  | [.tuple ds] => some (enumD ds, p.2)
  | _ => none
theorem i_enumT {X : Cx} {e : Expr} {ms : MDs} {p pos tpos : Pos} {elts : List Expr} {kk : Nat} (hm : X.mg "enumerate" = none) (ha : PA X [e] (tDs X.K ms)) (hg : Gl X "enumerate" := by rfl) (hs : starEach [e] X.env = [(false, eval e X.env)] := by rfl) :
    PI X (.Tuple elts kk tpos) (.Call (.Name "enumerate" p) [e] [] pos) (tIF X.K (Fy X.K) (mEnumT ms)) := PI.of (pi_enumT hg hm ha hs) fun σ H R ⟨ρ, O, items, ρ', E, e1, k⟩ => by
  obtain ⟨⟨ds, ρ1⟩, e2, e3⟩ := Option.bind_eq_some_iff.mp e1
  refine ⟨ρ, O, ds, ρ1, E, e2, fun xs H1 O1 E1 S1 F1 => ?_⟩
  dsimp only at e3
  split at e3
  · cases e3
    cases F1 with
    | cons f t =>
      cases t
      cases f with
      | tup h1 h2 => exact ⟨_, _, rfl, h1.sq, k _ _ H1 O1 E1 S1 src_enumT (.tup h1 h2)⟩
  · cases e3
end PL

/-! PL21: a list times an int. -/
namespace PL
open PySem PySem.Spec PyProof.Rows L2
variable [TheW]
end PL

/-! PL22: sorted of a list of tuples. -/
namespace PL
open PySem PySem.Spec PyProof.Rows L2
variable [TheW]
end PL

/-! PL23: a tuple times an int. -/
namespace PL
open PySem PySem.Spec PyProof.Rows L2
variable [TheW]
end PL

/-! PE1: dict comprehensions with plain keys. -/
namespace PL
open PySem PySem.Spec PyProof.Rows L2
variable [TheW]
def keyK : D → Option Key
  | .int i => some (.inl i)
  | .str x => some (.inr x)
  | _ => none
theorem keyK_D {d : D} {k : Key} (h : keyK d = some k) : d = kD k ∧ keyD d = some (nkK k) := by
  cases d <;> cases h <;> exact ⟨rfl, rfl⟩
theorem keyK_V {K : PySem.W.Frag} {H : Hp} {O : Addr → Prop} {x : V} {d : D} {k : Key} (h : keyK d = some k) (f : Fz K H O x d) : x = kV k := by
  cases d <;> cases h <;> cases f <;> rfl
def mDcGo (g : MG) (t : MT) (mk mv : MD) (vs : List Nat) : List D → List (D × D) → Ev → Option (List (D × D) × Ev)
  | [], acc, ρ => some (acc, ρ)
  | d :: ds, acc, ρ => (g d ρ).bind fun ρ1 => (t ρ1).bind fun p => if p.1 = true then (mk p.2).bind fun q => (mv q.2).bind fun r => (keyK q.1).bind fun k => if acc.length < 2 ^ 20 then mDcGo g t mk mv vs ds (dSet acc (nkK k) q.1 r.1) (wipeE r.2 vs) else none
    else mDcGo g t mk mv vs ds acc (wipeE p.2 vs)
def mDc (mi : MDs) (g : MG) (t : MT) (mk mv : MD) (vs : List Nat) : ME := fun ρ => (mi ρ).bind fun p => if freeE p.2 vs = true then (mDcGo g t mk mv vs p.1 [] (wipeE p.2 vs)).map fun q => (.nl (.M q.1), unwipe p.2 q.2 vs) else none
theorem ResOk.dic {K : PySem.W.Frag} {H : Hp} {O : Addr → Prop} (tr : ∀ a, O a → H a ≠ none) {p : Addr} {ks : List (Key × V)} {kvs : List (D × D)} (n : H p = none) (h : ks.map (fun p => kD p.1) = kvs.map (·.1)) (f : FzKv K H O (ks.map (·.2)) kvs) :
    ResOk K H O (upd H p (.dK ks)) (fun a => O a ∨ a = p) (.ref p) (.nl (.M kvs)) := by
  have keep : ∀ a o, H a = some o → upd H p (.dK ks) a = some o := fun a o h => by rw [upd_ne (ne_of_none h n)]; exact h
  refine ⟨keep, fun a h => h.imp id fun e => by rw [e]; exact n, fun _ h => .inl h, fun a h => ?_, p, rfl, .inr rfl, n, .inl ⟨ks, upd_same, h, FzKv.mv ⟨fun a o h _ => keep a o h, fun a h => h.imp id fun e => by rw [e]; exact n⟩ _ _ f⟩⟩
  rcases h with h | h
  · cases q : H a with
    | none => exact absurd q (tr a h)
    | some u => rw [keep a u q]; exact nofun
  · rw [h, upd_same]; exact nofun
section
variable {mi : MDs} {g : MG} {t : MT} {mk mv : MD}
theorem tDc_of {K : PySem.W.Frag} {F : Hp → (Addr → Prop) → V → D → Prop} {vs : List Nat} : ∀ σ H Q, tE K (mDc mi g t mk mv vs) σ H Q → tDc (tIF K F mi) (tGF K F vs g) (tT K t) (tD1 K mk) (tD1 K mv) vs σ H Q := by
  intro σ H Q ⟨ρ, O, r, ρ', E, e1, k⟩
  obtain ⟨⟨items, ρ1⟩, e2, e3⟩ := Option.bind_eq_some_iff.mp e1
  dsimp only at e3
  split at e3
  case isFalse => cases e3
  rename_i hf
  obtain ⟨⟨accF, ρF⟩, e4, e5⟩ := Option.map_eq_some_iff.mp e3
  cases e5
  refine ⟨ρ, O, items, ρ1, E, e2, fun J P H1 O1 E1 S1 Sr P1 D hD => ?_⟩
  have R0 := ResOk.dic (K := K) (ks := []) (kvs := []) E1.tr hD rfl .nil
  refine ⟨fun i n Hc => n = items.length - i ∧ i ≤ items.length ∧ ∃ ρb Ob acc ks, EnvOk K Hc Ob (wipe σ vs) ρb ∧ Stp (wipe σ vs) (wipeE ρ1 vs) O1 H1 (wipe σ vs) ρb Ob Hc ∧ Hc D = some (.dK ks) ∧ ks.map (fun p => kD p.1) = acc.map (·.1) ∧ FzKv K Hc Ob (ks.map (·.2)) acc ∧ Ob D ∧ ¬ Ed (wipe σ vs) ρb D ∧
      mDcGo g t mk mv vs (items.drop i) acc ρb = some (accF, ρF) ∧ P Hc Ob,
    ⟨items.length, rfl, Nat.zero_le _, wipeE ρ1 vs, _, [], [], E1.wiped.grow R0.keep R0.sub R0.more R0.tr, .grow R0.keep R0.sub R0.more, upd_same, rfl, .nil, .inr rfl, fun z => E1.tr D (E1.ed z.wiped) hD, e4, Sr.mv _ _ _ _ P1 ⟨fun a o h _ => R0.keep a o h, R0.sub⟩⟩, ?_⟩
  rintro i n Hc ⟨rfl, hil, ρb, Ob, acc, ks, Eb, Sb, hDc, hk, Fa, oD, nD, lg, Pc⟩
  by_cases hlt : i < items.length
  · refine .inr ⟨Sr.go i Hc Ob Pc hlt, fun H' => ∃ ρb Ob acc ks, EnvOk K H' Ob (wipe σ vs) ρb ∧ Stp (wipe σ vs) (wipeE ρ1 vs) O1 H1 (wipe σ vs) ρb Ob H' ∧ H' D = some (.dK ks) ∧ ks.map (fun p => kD p.1) = acc.map (·.1) ∧ FzKv K H' Ob (ks.map (·.2)) acc ∧ Ob D ∧ ¬ Ed (wipe σ vs) ρb D ∧
        mDcGo g t mk mv vs (items.drop (i + 1)) acc ρb = some (accF, ρF) ∧ P H' Ob, fun H' q => ⟨_, by omega, rfl, hlt, q⟩, fun x Hy y => ?_⟩
    obtain ⟨keep, d, hd, fx⟩ := Sr.yld i Hc Ob x Hy Pc Eb.tr hlt y
    obtain ⟨Ey, Sy⟩ := Eb.yield keep
    have Py : P Hy Ob := Sr.mv _ _ _ _ Pc (Sy.mv Eb)
    have hcons : items.drop i = d :: items.drop (i + 1) := by
      rw [List.drop_eq_getElem_cons hlt]
      have : items[i] = d := by
        rw [List.getElem?_eq_getElem hlt] at hd
        exact Option.some.inj hd
      rw [this]
    rw [hcons] at lg
    obtain ⟨ρ2, g1, lg⟩ := Option.bind_eq_some_iff.mp (show (g d ρb).bind _ = _ from lg)
    obtain ⟨⟨b, ρ3⟩, t1, lg⟩ := Option.bind_eq_some_iff.mp lg
    refine ⟨ρb, Ob, d, ρ2, Ey, fx, g1, fun σ2 H2 O2 E2 S2 W2 => ⟨(wipe_eq W2.2 W2.1).trans wipe_wipe, ?_⟩⟩
    have ws : wipe σ2 vs = wipe σ vs := (wipe_eq W2.2 W2.1).trans wipe_wipe
    have P2 : P H2 O2 := Sr.mv _ _ _ _ Py (S2.mv Ey)
    refine ⟨ρ2, O2, b, ρ3, E2, t1, fun H3 O3 E3 S3 => ?_⟩
    have P3 : P H3 O3 := Sr.mv _ _ _ _ P2 (S3.mv E2)
    have Syb := Stp.trans Eb.tr Sy (Stp.trans Ey.tr S2 S3)
    have Fa3 := FzKv.mv (Syb.mv Eb) _ _ Fa
    have hD3 : H3 D = some (.dK ks) := Syb.keep D _ hDc nD
    have oD3 : O3 D := Syb.stay D oD nD
    have nD3 : ¬ Ed σ2 ρ3 D := fun z => (Syb.env D z).elim nD fun z => by rw [hDc] at z; cases z
    have Sb3 := Stp.trans E1.tr Sb Syb
    cases b with
    | false =>
      have lg : mDcGo g t mk mv vs (items.drop (i + 1)) acc (wipeE ρ3 vs) = some (accF, ρF) := lg
      refine iteF ⟨wipeE ρ3 vs, O3, acc, ks, ?_, ?_, hD3, hk, Fa3, oD3, ?_, lg, P3⟩
      · rw [← ws]; exact E3.wiped
      · rw [← ws]; exact Sb3.wipedTo ws
      · rw [← ws]; exact fun z => nD3 z.wiped
    | true =>
      obtain ⟨⟨dk, ρ4⟩, m1, lg⟩ := Option.bind_eq_some_iff.mp lg
      obtain ⟨⟨dv, ρ5⟩, m2, lg⟩ := Option.bind_eq_some_iff.mp lg
      obtain ⟨kk, m3, lg⟩ := Option.bind_eq_some_iff.mp lg
      dsimp only at lg
      split at lg
      case isFalse => cases lg
      rename_i hz
      refine iteT ⟨ρ3, O3, dk, ρ4, E3, m1, fun yk H4 O4 E4 S4 F4 => ⟨ρ4, O4, dv, ρ5, E4, m2, fun yv H5 O5 E5 S5 F5 => ?_⟩⟩
      have S35 := Stp.trans E3.tr S4 S5
      have hD5 : H5 D = some (.dK ks) := S35.keep D _ hD3 nD3
      have oD5 : O5 D := S35.stay D oD3 nD3
      have nD5 : ¬ Ed σ2 ρ5 D := fun z => (S35.env D z).elim nD3 fun z => by rw [hD3] at z; cases z
      have Fa5 := FzKv.mv (S35.mv E3) _ _ Fa3
      have Sb5 := Stp.trans E1.tr Sb3 S35
      have hl : ks.length = acc.length := by have := congrArg List.length hk; simpa using this
      obtain ⟨q1, q2⟩ := keyK_D m3
      obtain ⟨p1, p2⟩ := put_k kk F5 hk Fa5
      rw [← q1] at p1 p2
      refine ⟨ks, kk, keyK_V m3 F4, hD5, by rw [sizeLine_eq]; omega, wipeE ρ5 vs, O5, dSet acc (nkK kk) dk dv, putK ks kk yv, ?_, ?_, upd_same, p1, ?_, oD5, ?_, lg, ?_⟩
      · rw [← ws]; exact (E5.poke oD5 nD5).wiped
      · rw [← ws]; exact (Sb5.poke hD).wipedTo ws
      · exact FzKv.mv (poke_mv oD5) _ _ p2
      · rw [← ws]; exact fun z => nD5 z.wiped
      · exact Sr.mv _ _ _ _ (Sr.mv _ _ _ _ P3 (S35.mv E3)) (poke_mv oD5)
  · have hi : i = items.length := by omega
    subst hi
    refine .inl ⟨Sr.stop _ Hc Ob Pc (Nat.le_refl _), ?_⟩
    rw [List.drop_length] at lg
    cases lg
    obtain ⟨EU, SU, ed⟩ := unwiped hf E1 Eb Sb
    exact k (.ref D) Hc Ob EU (Stp.trans E.tr S1 SU) ⟨D, rfl, oD, fun z => nD (ed D z), Classical.byContradiction fun q => S1.there D q hD, .inl ⟨ks, hDc, hk, Fa⟩⟩
end
section
variable {X : Cx} {kx vx tg iter : Expr} {ifs : List Expr} {scope : Scope} {own : List (Str × Nat)} {pos : Pos} {mi : MDs} {g : MG} {mk mv : MD}
theorem p_dc {F : Hp → (Addr → Prop) → V → D → Prop} (hN : X.N.Nodup) (hi : PI X tg iter (tIF X.K F mi)) (ok : BlkOk X.N X.env.scope scope own) {tt : MT}
    (hg : ∀ (s : Shared) (H : Hp) (C : Addr) (cl : List (Str × Addr)) (fp : List Addr), PG (X.blk s H scope (compEnvC scope cl C X.env) fp) tg (tGF X.K F (own.map (·.2)) g))
    (ht : ∀ (s : Shared) (H : Hp) (C : Addr) (cl : List (Str × Addr)) (fp : List Addr), PTs (X.blk s H scope (compEnvC scope cl C X.env) fp) ifs (tT X.K tt))
    (hk : ∀ (s : Shared) (H : Hp) (C : Addr) (cl : List (Str × Addr)) (fp : List Addr), PE (X.blk s H scope (compEnvC scope cl C X.env) fp) kx (tD1 X.K mk))
    (he : ∀ (s : Shared) (H : Hp) (C : Addr) (cl : List (Str × Addr)) (fp : List Addr), PE (X.blk s H scope (compEnvC scope cl C X.env) fp) vx (tD1 X.K mv)) (hc : X.calm = true := by rfl) (hs : ∀ x, foldedSetIterable iter X.env x = pure x := by intro _; rfl) :
    PE X (.DictComp kx vx [⟨tg, iter, ifs, 0⟩] scope pos) (tE X.K (mDc mi g tt mk mv (own.map (·.2)))) := PE.of (pe_dc hc hN hi ok hg ht hk he hs) tDc_of
end
end PL

/-! PE2: name = {..}; d.get; range with a step. -/
namespace PL
open PySem PySem.Spec PyProof.Rows L2
variable [TheW]
section
variable {X : Cx} {kx vx tg iter : Expr} {ifs : List Expr} {scope : Scope} {own : List (Str × Nat)} {pos : Pos} {mi : MDs} {g : MG} {mk mv : MD}
end
theorem u16 {k : Nat} {A : Around} (h : Room k A) : A.units + 16 < cLine := by have := h.un; omega
theorem pa_dict : PlainAttrs "dict" := PySem.F.plainAttrs_dict
/-! ### range(a, b, c) -/
def rangeC (lo c : Int) (n : Nat) : List D := (List.range n).map fun (i : Nat) => PyData.int (lo + (i : Nat) * c)
def rangeOf3 : List D → Option (List D)
  | [.int i, .int j, .int c] => if c ≠ 0 ∧ c.natAbs < 1073741824 ∧ Builtin.Range.small i j c = true ∧ 0 ≤ Builtin.Range.rangeSize i j c then some (rangeC i c (Builtin.Range.rangeSize i j c).toNat) else none
  | _ => none
def mRange3 (ms : MDs) : MDs := fun ρ => (ms ρ).bind fun p => (rangeOf3 p.1).map fun ds => (ds, p.2)
end PL

/-! PL24: a call that lends its lists as data that stand still while it runs; it hands a plain value back. -/
namespace PL
open PySem PySem.Spec PyProof.Rows L2
variable [TheW]
section
variable {K : PySem.W.Frag} {H H' H0 : Hp} {O O' O0 : Addr → Prop} {σ : L2.St} {ρ ρ0 ρ' : Ev} {x : V} {d : D}
theorem mv_still : Mv H O H (fun _ => False) := ⟨fun a o h _ => h, fun a h => h.elim⟩
theorem Lk.still (h : Lk K H O x d) : Fz K H (fun _ => False) x d := by
  rcases h with h | ⟨a, o, rfl, rfl, h⟩
  · exact Fz.mv mv_still d x h
  · cases o with
    | L xs =>
      obtain ⟨vs, h1, h2⟩ := h
      exact .lst (.inl ⟨Or.inl h1, id⟩) (FzAll.mv mv_still _ _ h2)
    | M kvs =>
      rcases h with ⟨ks, h1, h2, h3⟩ | ⟨es, h0, h1, h2, h3, h4⟩
      · exact .dk h1 id h2 (FzKv.mv mv_still _ _ h3)
      · exact .dt h0 h1 id h2 (FzKk.mv mv_still _ _ h3) (FzKv.mv mv_still _ _ h4)
end
section
variable {X : Cx} {k : Nat} {f : Addr} {fd : FuncData} {ps : List Str} {fm : ME} {x : Str} {p pos : Pos} {e : Expr} {es : List Expr} {ms : MA}
end
end PL

namespace PL
open PySem PySem.Spec PyProof.Rows L2
variable [TheW]
def gNotB : D → D → Option RV
  | .bool a, .bool b => some (.d (.bool (!decide (a = b))))
  | _, _ => none
section
variable {X : Cx} {a b : Expr} {ma mb : ME} {pos : Pos}
theorem q_notB (ha : PE X a (tE X.K ma)) (hb : PE X b (tE X.K mb)) : PT X (.Compare a [.IsNot] [b] pos) (tT X.K (mB (m2 gNotB ma mb))) := q_cmp op_isnot_bl (fun H O x y d e z Q tr hx hy g k => by
  cases d <;> cases e <;> cases g
  exact ⟨_, _, lk_bl hx, lk_bl hy, k _ _ _ (.same tr (.bl _))⟩) ha hb (nobehind _ (by decide) (by decide))
end
end PL

/-! PL26: dict(pairs), the pairs in a list; keys: whole numbers and texts, or tuples. -/
namespace PL
open PySem PySem.Spec PyProof.Rows L2
variable [TheW]
section
variable {X : Cx} {pins : List (Addr × Obj)} {σ : L2.St} {H : Hp} {s : Shared}
end
section
variable {K : PySem.W.Frag} {H : Hp} {O : Addr → Prop}
end
end PL

/-! PL27: {k: v}, one pair. -/
namespace PL
open PySem PySem.Spec PyProof.Rows L2
variable [TheW]
section
variable {prog : Program} {w : World} {K : Type} [DecidableEq K] {knd : HeapKind prog w K} {A : Around} {E : Value → Shared → Prop} {s : Shared} {env : Env}
end
section
variable {X : Cx} {ke ve : Expr} {mk mv : MD} {pos : Pos}
end
end PL

/-! PL28: zip over two iterators of any kind whose tuples are kept: list(zip(..)), dict(zip(..)). -/
namespace PL
open PySem PySem.Spec PyProof.Rows L2 PySem.W
open Sem (wp)
section
variable {prog : Program} {w : World} {A : Around} {E : Value → Shared → Prop} {s : Shared} {z TI TO T i1 i2 : Addr} {fp1 fp2 : List Addr} {n1 n2 i : Nat} {P1 P2 : Nat → Value → Prop} {St1 St2 : Nat → Heap → Prop} {f : Bool} {oT : Obj}
variable {N : Addr}
end
end PL

/-! PL29: dict(zip(a, b)), dict(list(zip(a, b))): keys whole numbers and texts. -/
namespace PL
open PySem PySem.Spec PyProof.Rows L2 PySem.W
open Sem (wp)
section
variable {prog : Program} {w : World} {A : Around} {E : Value → Shared → Prop} {s : Shared} {z TI TO i1 i2 : Addr} {fp1 fp2 : List Addr} {n1 n2 : Nat} {P1 P2 : Nat → Value → Prop} {St1 St2 : Nat → Heap → Prop}
/-- a zip as it comes -/
structure ZNew (z TI TO i1 i2 : Addr) (fp1 fp2 : List Addr) (St1 St2 : Nat → Heap → Prop) (h : Heap) : Prop where
  isZ : IsZip h z TI TO .none
  ti : IsTupOf2 h TI (.ref i1) (.ref i2)
  to : ∃ a b, IsTupOf2 h TO a b
  s1 : St1 0 h
  s2 : St2 0 h
  th : ∀ b ∈ fp1 ++ fp2, ∃ o, h.get? b = some o
/-! ### list(zip(..)) -/
structure ZlG (P1 P2 : Nat → Value → Prop) (lo : Addr) (h : Heap) (as : List Addr) : Prop where
  above : ∀ a ∈ as, lo < a
  pairs : ∀ (j : Nat) (a : Addr), as[j]? = some a → ∃ x y, P1 j x ∧ P2 j y ∧ IsTupOf2 h a x y
theorem ZlG.there {lo : Addr} {h : Heap} {as : List Addr} (g : ZlG P1 P2 lo h as) {a : Addr} (ha : a ∈ as) : a < h.objs.size := by
  obtain ⟨j, hj⟩ := List.mem_iff_getElem?.mp ha
  obtain ⟨_, _, _, _, e⟩ := g.pairs j a hj
  exact Heap.lt_size e
end
end PL

/-! PL30: dict(zip(a, b)), dict(list(zip(a, b))): the rules. -/
namespace PL
open PySem PySem.Spec PyProof.Rows L2 PySem.W
open Sem (wp)
section
variable {prog : Program} {w : World} {A : Around} {E : Value → Shared → Prop} {s : Shared} {z TI TO i1 i2 : Addr} {fp1 fp2 : List Addr} {n1 n2 : Nat} {P1 P2 : Nat → Value → Prop} {St1 St2 : Nat → Heap → Prop}
theorem ZNew.keep {h h' : Heap} (zn : ZNew z TI TO i1 i2 fp1 fp2 St1 St2 h) (D1 : Draws prog w A i1 fp1 n1 P1 St1) (D2 : Draws prog w A i2 fp2 n2 P2 St2) (hL : ∀ b ∈ z :: TI :: TO :: (fp1 ++ fp2), ∀ o, h.get? b = some o → h'.get? b = some o) : ZNew z TI TO i1 i2 fp1 fp2 St1 St2 h' := by
  have hf1 : ∀ b ∈ fp1, ∀ o, h.get? b = some o → h'.get? b = some o := fun b hb => hL b (by simp [hb])
  have hf2 : ∀ b ∈ fp2, ∀ o, h.get? b = some o → h'.get? b = some o := fun b hb => hL b (by simp [hb])
  obtain ⟨a, b, e⟩ := zn.to
  refine ⟨hL z (by simp) _ zn.isZ, hL TI (by simp) _ zn.ti, ⟨a, b, hL TO (by simp) _ e⟩, D1.frame _ _ _ zn.s1 hf1, D2.frame _ _ _ zn.s2 hf2, fun b hb => ?_⟩
  obtain ⟨o, e⟩ := zn.th b hb
  exact ⟨o, (List.mem_append.mp hb).elim (fun q => hf1 b q o e) (fun q => hf2 b q o e)⟩
theorem ZNew.lt {h : Heap} (zn : ZNew z TI TO i1 i2 fp1 fp2 St1 St2 h) : ∀ b ∈ z :: TI :: TO :: (fp1 ++ fp2), b < h.objs.size := fun b hb => by
  obtain ⟨a, c, e⟩ := zn.to
  rcases List.mem_cons.mp hb with rfl | hb
  · exact Heap.lt_size zn.isZ
  rcases List.mem_cons.mp hb with rfl | hb
  · exact Heap.lt_size zn.ti
  rcases List.mem_cons.mp hb with rfl | hb
  · exact Heap.lt_size e
  · obtain ⟨o, e⟩ := zn.th b hb
    exact Heap.lt_size e
end
/-! ### zip(a, b) of lists and tuples -/
section
variable {X : Cx} {pins : List (Addr × Obj)} {σ : L2.St} {H : Hp} {s : Shared}
end
end PL

/-! PL31: dict(zip(a, b)), dict(list(zip(a, b))). -/
namespace PL
open PySem PySem.Spec PyProof.Rows L2 PySem.W
open Sem (wp)
variable [TheW]
section
variable {X : Cx} {pins : List (Addr × Obj)} {σ : L2.St} {H : Hp} {s : Shared} {xs ys : List V} {z : Addr} {kvs : List (Key × V)} {Q : VK}
end
section
variable {X : Cx} {e e2 : Expr} {ta : TA} {p p2 p3 pos pos2 pos3 : Pos}
end
section
variable {K : PySem.W.Frag} {H : Hp} {O : Addr → Prop}
end
section
variable {X : Cx} {e e2 : Expr} {ms : MDs} {p p2 p3 pos pos2 pos3 : Pos}
end
end PL

/-! PL32: d.update(e), plain keys. -/
namespace PL
open PySem PySem.Spec PyProof.Rows L2
variable [TheW]
section
variable {X : Cx} {pins : List (Addr × Obj)} {σ : L2.St} {H : Hp} {s : Shared} {a b : Addr} {kvs more : List (Key × V)} {A : Around} {E : Value → Shared → Prop}
end
section
variable {K : PySem.W.Frag} {H : Hp} {O : Addr → Prop}
end
end PL

/-! PL33: list(d), plain keys. -/
namespace PL
open PySem PySem.Spec PyProof.Rows L2
variable [TheW]
section
variable {K : PySem.W.Frag} {H : Hp} {O : Addr → Prop}
end
end PL

/-! PL34: an expression that runs while all that is owned stands still; it hands a plain value back. -/
namespace PL
open PySem PySem.Spec PyProof.Rows L2
variable [TheW]
section
variable {K : PySem.W.Frag} {H H' : Hp} {O : Addr → Prop} {σ : L2.St} {ρ : Ev}
theorem EnvOk.kept (E : EnvOk K H O σ ρ) (hk : ∀ a o, H a = some o → H' a = some o) (ht : ∀ a, H a ≠ none → H' a ≠ none) : EnvOk K H' O σ ρ := by
  have m : Mv H O H' O := ⟨fun a o h _ => hk a o h, fun a h => .inl h⟩
  have same : ∀ a, O a → H' a = H a := fun a h => by
    cases e : H a with
    | none => exact absurd e (E.tr a h)
    | some o => exact hk a o e
  refine ⟨E.len, fun i c h => ?_, E.dis, fun a h => ht a (E.tr a h)⟩
  obtain ⟨s, e, q⟩ := E.slot i c h
  refine ⟨s, e, ?_⟩
  cases c with
  | un => exact q
  | v d =>
    obtain ⟨x, e2, f⟩ := q
    exact ⟨x, e2, Fz.mv m d x f⟩
  | own o =>
    obtain ⟨a, e2, oa, f⟩ := q
    exact ⟨a, e2, oa, OcAt.mv m f (same a oa)⟩
  | brw o =>
    obtain ⟨a, e2, oa, f⟩ := q
    exact ⟨a, e2, oa, OcAt.mv m f (same a oa)⟩
  | ob C fs =>
    obtain ⟨x, e2, f⟩ := q
    exact ⟨x, e2, f.mv m⟩
end
section
variable {X : Cx} {e : Expr} {m : ME}
end
end PL

/-! PL35: l.remove(x), texts alone. -/
namespace PL
open PySem PySem.Spec PyProof.Rows L2
variable [TheW]
def eqS (z : Str) : Value → Bool
  | .str x _ => x == z
  | _ => false
abbrev rRemS : V → List V → Hp → VK → Prop := fun x vs H Q => ∃ (l : Addr) (ss : List Str) (z : Str) (j : Nat), x = .ref l ∧ vs = [.str z] ∧ H l = some (.lst (ss.map V.str)) ∧ ss[j]? = some z ∧ (∀ m : Nat, m < j → ss[m]? ≠ some z) ∧ Q .non (upd H l (.lst ((ss.map V.str).eraseIdx j)))
theorem mt_remove {X : Cx} : MtR X "list.remove" rRemS := by
  intro pins s σ H x vs v us Q I rx rv h
  obtain ⟨l, ss, z, j, rfl, rfl, hH, hj, hno, q⟩ := h
  cases rx
  obtain ⟨u, rfl, ru⟩ := rv.one
  obtain ⟨t, rfl⟩ := ru
  obtain ⟨zz, its, n, r, hl, e⟩ := I.lstM hH
  have hlen : its.length = ss.length := by rw [← hl, List.length_map]
  have at_ : ∀ (m : Nat) (x : Str), ss[m]? = some x → ∃ t, its[m]? = some (.str x t) := fun m x hx => by
    obtain ⟨w, hw, rw'⟩ := r.get (show (ss.map V.str)[m]? = some (.str x) by rw [List.getElem?_map, hx]; rfl)
    obtain ⟨t, rfl⟩ := rw'
    exact ⟨t, hw⟩
  have he : ∀ y, y ∈ its.toArray → MeetsSeq.EqGives y (.str z t) (eqS z y) := fun y hy => by
    obtain ⟨m, hm⟩ := List.mem_iff_getElem?.mp (by simpa using hy : y ∈ its)
    have hml := (List.getElem?_eq_some_iff.mp hm).1
    obtain ⟨t2, h2⟩ := at_ m _ (List.getElem?_eq_getElem (by omega))
    rw [hm] at h2
    cases h2
    exact fun _ _ _ _ _ _ h => wpAny_eqBool_str h
  have jl := (List.getElem?_eq_some_iff.mp hj).1
  obtain ⟨tj, hjt⟩ := at_ j z hj
  refine call_meets F.slot_list_remove ⟨_, e, rfl⟩ F.entry_list_remove (F.args_list_remove_2 _ _)
    (MeetsSeq.list_remove l its.toArray n (.str z t) (eqS z) he j (by rw [List.size_toArray]; omega) ?_ (fun m hm hmj => ?_) (by rw [List.size_toArray]; omega)) ⟨e, ?_⟩
  · have : its.toArray[j]'(by rw [List.size_toArray]; omega) = .str z tj := by
      have := List.getElem?_eq_some_iff.mp hjt
      obtain ⟨_, h⟩ := this
      simpa using h
    rw [this]
    exact beq_self_eq_true z
  · have hml : m < ss.length := by rw [List.size_toArray] at hm; omega
    obtain ⟨t2, h2⟩ := at_ m _ (List.getElem?_eq_getElem hml)
    have : its.toArray[m] = .str ss[m] t2 := by
      obtain ⟨_, h⟩ := List.getElem?_eq_some_iff.mp h2
      simpa using h
    rw [this]
    exact beq_eq_false_iff_ne.mpr fun e2 => hno m hmj (by rw [List.getElem?_eq_getElem hml, e2])
  · refine ⟨.non, _, I.lset (its' := its.eraseIdx j) hH e ?_ (r.eraseIdx j) ?_, rfl, q⟩
    · show its.toArray.eraseIdxIfInBounds j = (its.eraseIdx j).toArray
      rw [List.eraseIdxIfInBounds_toArray]
    · have := List.length_eraseIdx_le (ss.map V.str) j
      omega
theorem sl_remove : Slot "list" "remove" "list.remove" := PySem.F.slot_list_remove
theorem ty_remove : typeOf (.builtin "list.remove") = pure (.type "method_descriptor") := PySem.F.type_list_remove
theorem idx_first {z : Str} : ∀ {ss : List Str} {m : Nat}, ss[m]? = some z → ss.idxOf z ≤ m
  | [], _, h => by cases h
  | s :: ss, m, h => by
    rw [List.idxOf_cons]
    by_cases e : s = z
    · simp [e]
    · cases m with
      | zero => cases h; exact absurd rfl e
      | succ m =>
        have ih := idx_first (ss := ss) (m := m) (by simpa using h)
        have : (s == z) = false := beq_eq_false_iff_ne.mpr e
        simp only [this, cond_false]
        omega
def gRem : OC → List D → Option (OC × D)
  | .L xs, [.str z] => (strsOf xs).bind fun ss => if z ∈ ss then some (.L (xs.eraseIdx (ss.idxOf z)), .none) else none
  | _, _ => none
section
variable {K : PySem.W.Frag}
theorem FzAll.erase {H : Hp} {O : Addr → Prop} : ∀ {vs : List V} {ds : List D} (j : Nat), FzAll K H O vs ds → FzAll K H O (vs.eraseIdx j) (ds.eraseIdx j)
  | _, _, _, .nil => .nil
  | _, _, 0, .cons _ t => t
  | _, _, j + 1, .cons r t => .cons r (FzAll.erase j t)
theorem om_remove : OpM K rRemS gRem := by
  intro H O a o o' xs ds z Q tr oa fa F g k
  unfold gRem at g
  split at g
  · rename_i l zz
    obtain ⟨ss, g1, g2⟩ := Option.bind_eq_some_iff.mp g
    split at g2
    · rename_i hm
      cases g2
      obtain ⟨vs, h1, h2⟩ := fa
      have e2 := strsOf_eq g1
      have e1 : vs = ss.map V.str := fz_strs (by rw [← e2]; exact h2)
      cases F with
      | cons f t =>
        cases t
        cases f
        have hl := List.idxOf_lt_length_of_mem hm
        refine ⟨a, ss, zz, ss.idxOf zz, rfl, rfl, by rw [h1, e1], by rw [List.getElem?_eq_getElem hl, List.getElem_idxOf hl], fun m hlt e => ?_, ?_⟩
        · have := List.idxOf_lt_length_of_mem hm
          exact absurd (idx_first e) (by omega)
        · rw [← e1]
          exact k _ _ ⟨_, upd_same, FzAll.mv (poke_mv oa) _ _ (h2.erase _)⟩ .non
    · cases g2
  · cases g
end
end PL

/-! PL36: instances that stand still once they are made: fields read, methods called, instances made by an __init__ that stores each field once. -/
namespace PL
open PySem PySem.Spec PyProof.Rows L2
variable [TheW]

section
variable {K : PySem.W.Frag} {H H' H0 : Hp} {O O' O0 : Addr → Prop} {σ σ' σ0 : L2.St} {ρ ρ' ρ0 : Ev} {x : V} {d : D}
end

def mFld (C f : Str) (m : ME) : ME := fun ρ => (m ρ).bind fun p => match p.1 with
  | .ob C' fs => if C' = C then (fs.lookup f).map fun d => (.d d, p.2) else none
  | _ => none
section
variable {X : Cx} {e : Expr} {m : ME} {f C : Str} {pos : Pos}
end

def mMeth (C mt : Str) (fm : ME) (mo : ME) (ms : MA) : ME := fun ρ => (mo ρ).bind fun p => match p.1 with
  | .ob C' fs => if C' = C ∧ fs.lookup mt = none then mCall fm (fun ρ1 => (ms ρ1).map fun q => (.ob C' fs :: q.1, q.2)) p.2 else none
  | _ => none
section
variable {X : Cx} {j k : Nat} {ps : List Str} {fm : ME} {C mt : Str} {pos apos : Pos} {o e : Expr} {es : List Expr} {mo : ME} {ms : MA}
end
end PL
namespace PL
open PySem PySem.Spec PyProof.Rows L2
variable [TheW]
section
variable {X : Cx} {C f x : Str} {e : Expr} {m : ME} {l : List (Str × ME)} {rest : List Stmt} {p1 p2 pos : Pos}
end
section
variable {P : Program} {w : World} {K : PySem.W.Frag} {mg : Str → Option Value} {base : Heap}
end
def mMake (C : Str) (fi : Ev → Option (List (Str × D) × Ev)) (ms : MA) : ME := fun ρ => (ms ρ).bind fun p => if (alsOf p.1).Nodup then (argDVs p.2 p.1).bind fun dvs => (fi dvs).map fun q => (.ob C q.1, putBack p.2 p.1 q.2) else none
section
variable {X : Cx} {j k : Nat} {ps : List Str} {fi : Ev → Option (List (Str × D) × Ev)} {C : Str} {p pos : Pos} {e : Expr} {es : List Expr} {ms : MA}
end
end PL
namespace PL
open PySem PySem.Spec PyProof.Rows L2
variable [TheW]
section
variable {P : Program} {w : World} {K : PySem.W.Frag} {mg : Str → Option Value} {base : Heap}
end
end PL

/-! PL37: defs that may raise an own exception; a try around them. -/
namespace PL
open PySem PySem.Spec PyProof.Rows L2
variable [TheW]

/-- how an expression, a statement ends where it may raise: ex C: an exception of the class named C -/
inductive RX where
  | ok (r : RV)
  | ex (C : Str)
inductive OX where
  | o (o : Out)
  | ex (C : Str)
abbrev MEX := Ev → Option (RX × Ev)
abbrev MSX := Ev → Option (OX × Ev)
/-- the class named C -/
abbrev clsR (K : PySem.W.Frag) (C : Str) : Value := .ref (He.ga K C)
def tEx (K : PySem.W.Frag) (W : WX) (m : MEX) : TE := fun σ H Q => ∃ ρ O r ρ', EnvOk K H O σ ρ ∧ m ρ = some (r, ρ') ∧ match r with
  | .ok r => ∀ x H' O', EnvOk K H' O' σ ρ' → Stp σ ρ O H σ ρ' O' H' → RvOk K H H' O' σ ρ' x r → Q x H'
  | .ex C => ∀ H' O', EnvOk K H' O' σ ρ' → Stp σ ρ O H σ ρ' O' H' → W (clsR K C) none σ H'
/-! ### statements -/
def xLift (m : MS) : MSX := fun ρ => (m ρ).map fun p => (.o p.1, p.2)
def xLiftE (m : ME) : MEX := fun ρ => (m ρ).map fun p => (.ok p.1, p.2)
def xSeq (a b : MSX) : MSX := fun ρ => (a ρ).bind fun p => match p.1 with
  | .o .nx => b p.2
  | o => some (o, p.2)
def xIf (c : MT) (a b : MSX) : MSX := fun ρ => (c ρ).bind fun p => if p.1 = true then a p.2 else b p.2
def xRaise (C : Str) : MSX := fun ρ => some (.ex C, ρ)
def xDrop (m : MEX) : MSX := fun ρ => (m ρ).map fun p => match p.1 with
  | .ok _ => (.o .nx, p.2)
  | .ex C => (.ex C, p.2)
def xRet (m : MEX) : MSX := fun ρ => (m ρ).map fun p => match p.1 with
  | .ok r => (.o (.rt r), p.2)
  | .ex C => (.ex C, p.2)
def xSet (i : Nat) (m : MEX) : MSX := fun ρ => (m ρ).bind fun p => match p.1 with
  | .ok r => (stE i r p.2).map fun ρ' => (.o .nx, ρ')
  | .ex C => some (.ex C, p.2)
section
variable {X : Cx} {W : WX} {e c : Expr} {st : Stmt} {sts rest : List Stmt} {m : ME} {mx : MEX} {ms : MS} {mt : MT} {a b : MSX} {pos : Pos}
end
end PL

/-! PL38: defs that may raise, called. -/
namespace PL
open PySem PySem.Spec PyProof.Rows L2
variable [TheW]

/-- a def that may raise, by its function over the parameters' slots -/
def tFx (K : PySem.W.Frag) (fx : MEX) (vs : List V) (H : Hp) (Q : VK) (E : XK) : Prop := tEx K (fun cls d _ H' => E cls d H') fx (vs.map some) H Q
structure FnX (P : Program) (w : World) (K : PySem.W.Frag) (mg : Str → Option Value) (base : Heap) (k : Nat) (f : Addr) (fd : FuncData) (ps : List Str) (fx : MEX) : Prop where
  len : ∀ dvs r, fx dvs = some r → dvs.length = ps.length
  run : ∀ (A : Around) (outer : List Env) (s : Shared) (H : Hp) (args : Args) (us : List Value) (vs : List V) (Q : VK) (E : XK), Room k A → A.guards = some [] → Env0 P w K mg base A outer s H →
    BindsTo s fd args (ps.zip us) → Vals vs us → tFx K fx vs H Q E → codeAny (model P w) A (.call (.ref f) args) (CR (L2.CX P w) outer P w H s Q E) s
def mFnX (np n : Nat) (ms : MSX) : MEX := fun dvs => if dvs.length = np ∧ plainArgs dvs = true then (ms (dvs ++ List.replicate (n - np) .un)).bind fun p => match p.1 with
  | .ex C => some (.ex C, outsOf dvs p.2)
  | .o .nx => some (.ok (.d .none), outsOf dvs p.2)
  | .o (.rt (.d d)) => some (.ok (.d d), outsOf dvs p.2)
  | .o (.rt (.nl o)) => some (.ok (.nl o), outsOf dvs p.2)
  | .o (.rt (.ob C fs)) => some (.ok (.ob C fs), outsOf dvs p.2)
  | .o (.rt (.al i)) => match p.2[i]? with
    | some (.own o) => some (.ok (.nl o), outsOf dvs p.2)
    | some (.v d) => some (.ok (.d d), outsOf dvs p.2)
    | _ => none
  | _ => none
  else none
section
variable {P : Program} {w : World} {K : PySem.W.Frag} {mg : Str → Option Value} {base : Heap}
end

/-! ### calls -/
def xCallR (fx : MEX) (rs : List RV) (ρ : Ev) : Option (RX × Ev) := if (alsOf rs).Nodup then (argDVs ρ rs).bind fun dvs => (fx dvs).bind fun q => match q.1 with
  | .ok (.d d) => some (.ok (.d d), putBack ρ rs q.2)
  | .ok (.nl o) => some (.ok (.nl o), putBack ρ rs q.2)
  | .ok (.ob C fs) => some (.ok (.ob C fs), putBack ρ rs q.2)
  | .ok (.al _) => none
  | .ex C => some (.ex C, putBack ρ rs q.2)
  else none
def xCall (fx : MEX) (ms : MA) : MEX := fun ρ => (ms ρ).bind fun p => xCallR fx p.1 p.2
def xCallK (fx : MEX) (n : Nat) (idx : List Nat) (ms : MA) : MEX := fun ρ => (ms ρ).bind fun p => if p.1.length = n then xCallR fx (pick idx p.1) p.2 else none
section
variable {X : Cx} {W : WX} {j k : Nat} {f : Addr} {fd : FuncData} {ps ks : List Str} {fx : MEX} {x : Str} {p pos : Pos} {e : Expr} {es : List Expr} {kws : List Keyword} {ms : MA} {idx : List Nat}
theorem FnX.argc {P : Program} {w : World} {K : PySem.W.Frag} {mg : Str → Option Value} {base : Heap} (F : FnX P w K mg base k f fd ps fx) {vs : List V} {H : Hp} {Q : VK} {E : XK} (h : tFx K fx vs H Q E) : vs.length = ps.length := by
  obtain ⟨dvs, O, r, ρ', Ee, e, _⟩ := h
  rw [← F.len dvs _ e, ← Ee.len, List.length_map]
end
section
variable {P : Program} {w : World} {K : PySem.W.Frag} {mg : Str → Option Value} {base : Heap}
end
section
variable {X : Cx} {W : WX} {j k : Nat} {ps ks : List Str} {idx : List Nat} {fx : MEX} {x : Str} {p pos : Pos} {e : Expr} {es : List Expr} {kws : List Keyword} {ms : MA}
end
end PL

/-! PL39: a try whose one except clause holds the exception by a name; isinstance of it; the facts that this asks of the head. -/
namespace PL
open PySem PySem.Spec PyProof.Rows L2
variable [TheW]

section
variable {K : PySem.W.Frag} {H : Hp} {O : Addr → Prop} {σ : L2.St} {ρ : Ev} {i : Nat}
end

section
variable {X : Cx} {i : Nat} {a : Addr} {e c e2 : Expr} {rest : List Expr} {m ma mb : ME} {mt mu : MT} {ms : MS} {pos : Pos}
end
/-- isinstance(e, c) by the class of the exception -/
def mIsE (tbl : List (Str × Bool)) (C : Str) : ME := fun ρ => match tbl.lookup C with
  | some b => some (.d (.bool b), ρ)
  | none => none
section
variable {X : Cx} {i : Nat} {a : Addr} {oe : Obj} {pn : List (Addr × Obj)} {C n x : Str} {tbl : List (Str × Bool)} {p p1 p2 pos : Pos} {v : V} {cv : Value}
end

/-! ### the try -/
def mTryAs (i : Nat) (tbl : List (Str × Bool)) (mb : MSX) (msu : Str → MS) : MS := fun ρ => (mb ρ).bind fun p => match p.1 with
  | .o o => some (o, p.2)
  | .ex C => if tbl.lookup C = some true ∧ noBrw p.2[i]? = true ∧ i < p.2.length then (msu C (p.2.set i .un)).bind fun q => if noBrw q.2[i]? = true then match q.1 with
      | .rt (.al _) => none
      | o => some (o, q.2.set i .un)
      else none
    else none
section
variable {X : Cx} {x n : Str} {i : Nat} {body suite : List Stmt} {b₀ : Stmt} {np pos pos' : Pos} {tbl : List (Str × Bool)} {mb : MSX} {msu : Str → MS}
end

/-! ### facts of the head -/
inductive XFa where
  | exc (C : Str)
  | kitO (C c : Str) (b : Bool)
  | kitT (C : Str) (T : String) (b : Bool)
def XFa.ok (K : PySem.W.Frag) : XFa → Bool
  | .exc C => He.eqO (PySem.W.findIn K (clsR K C) "__getattribute__") (some (some (.builtin "BaseException.__getattribute__"))) && (He.eqO (PySem.W.findIn K (clsR K C) "__getattr__") (some none) && (decide (PySem.W.subIn K (clsR K C) (.type "BaseException") = some true) && (PySem.W.hasDictIn K (He.ga K C) &&
      (He.eqO (PySem.W.findIn K (clsR K C) "__class__") (some (some (.builtin "object.__class__"))) && (He.eqO (PySem.W.specialIn K (.builtin "object.__class__") "__get__") (some (some (.builtin "getset_descriptor.__get__"))) && (decide (PySem.W.takesIn K (.builtin "object.__class__") = some true) && decide (PySem.W.mroIn K (He.ga K C) (.type "object") = some true)))))))
  | .kitO C c b => decide (PySem.W.kitOne K (clsR K C) (clsR K c) = some b)
  | .kitT C T b => decide (PySem.W.kitOne K (clsR K C) (.type T) = some b)
abbrev AlX : Type := AlP × Bool
def obsX (fa : List He.Fa) (fn : List He.DefD) (cs : List (Str × D)) (xs : List XFa) (K : PySem.W.Frag) : AlX := (obsP fa fn cs K, xs.all fun x => x.ok K)
def valX (fn : List He.DefD) : AlX := (valP fn, true)
def SaysX (fa : List He.Fa) (fn : List He.DefD) (cs : List (Str × D)) (xs : List XFa) (K : PySem.W.Frag) : Prop := obsX fa fn cs xs K = valX fn
section
variable {fa : List He.Fa} {fn : List He.DefD} {cs : List (Str × D)} {xs : List XFa} {K : PySem.W.Frag}
theorem SaysX.p (c : SaysX fa fn cs xs K) : SaysP fa fn cs K := congrArg (fun z : AlX => z.1) c
theorem SaysX.x (c : SaysX fa fn cs xs K) (i : Nat) {x : XFa} (h : xs[i]? = some x := by rfl) : x.ok K = true := by
  have c1 : (xs.all fun x => x.ok K) = true := congrArg (fun z : AlX => z.2) c
  exact List.all_eq_true.mp c1 x (List.mem_of_getElem? h)
end
end PL
namespace PL
open PySem PySem.Spec PyProof.Rows L2
variable [TheW]
def xTup1 (mx : MEX) : MEX := fun ρ => (mx ρ).bind fun p => match p.1 with
  | .ok r => (frz p.2 r).map fun q => (.ok (.d (.tuple [q.1])), q.2)
  | .ex C => some (.ex C, p.2)
def xIfE (c : MT) (a b : MEX) : MEX := fun ρ => (c ρ).bind fun p => if p.1 = true then a p.2 else b p.2
section
variable {X : Cx} {W : WX} {e c e2 : Expr} {mx ma mb : MEX} {mt : MT} {pos : Pos}
end
end PL
namespace PL
open PySem PySem.Spec PyProof.Rows L2
variable [TheW]
def xOp2 (g : D → D → Option RV) (mx : MEX) (mb : ME) : MEX := fun ρ => (mx ρ).bind fun p => match p.1 with
  | .ok r => (mb p.2).bind fun q => (look q.2 r).bind fun d => (look q.2 q.1).bind fun e => (g d e).map fun z => (.ok z, q.2)
  | .ex C => some (.ex C, p.2)
section
variable {X : Cx} {W : WX} {a b : Expr} {mx : MEX} {mb : ME} {pos : Pos}
end
end PL

/-! PL40: sorted of a tuple of tuples. -/
namespace PL
open PySem PySem.Spec PyProof.Rows L2
variable [TheW]
end PL
namespace PL
open PySem PySem.Spec PyProof.Rows L2
variable [TheW]
end PL

/-! PL41: [.. for x in own], own a list that a slot holds and that stays the slot's. -/
namespace PL
open PySem PySem.Spec PyProof.Rows L2
variable [TheW]
mutual
/-- the same data (no dict but {}) -/
def eqD : D → D → Bool
  | .none, .none => true
  | .bool a, .bool b => a == b
  | .int a, .int b => a == b
  | .str a, .str b => a == b
  | .list a, .list b => eqDs a b
  | .tuple a, .tuple b => eqDs a b
  | .dict [], .dict [] => true
  | _, _ => false
def eqDs : List D → List D → Bool
  | [], [] => true
  | a :: as, b :: bs => eqD a b && eqDs as bs
  | _, _ => false
end
mutual
theorem eqD_ok : ∀ (a b : D), eqD a b = true → a = b := by
  intro a b h
  unfold eqD at h
  split at h
  · rfl
  · rw [beq_iff_eq.mp h]
  · rw [beq_iff_eq.mp h]
  · rw [beq_iff_eq.mp h]
  · rw [eqDs_ok _ _ h]
  · rw [eqDs_ok _ _ h]
  · rfl
  · cases h
theorem eqDs_ok : ∀ (a b : List D), eqDs a b = true → a = b := by
  intro a b h
  unfold eqDs at h
  split at h
  · rfl
  · rw [Bool.and_eq_true] at h
    rw [eqD_ok _ _ h.1, eqDs_ok _ _ h.2]
  · cases h
end
def slotB (ρ : Ev) (j : Nat) (items : List D) : Bool := match ρ[j]? with
  | some (.own (.L xs)) => eqDs xs items
  | _ => false
def SlotIs (ρ : Ev) (j : Nat) (items : List D) : Prop := ρ[j]? = some (.own (.L items))
theorem slotB_ok {ρ : Ev} {j : Nat} {items : List D} (h : slotB ρ j items = true) : SlotIs ρ j items := by
  unfold slotB at h
  split at h
  · rename_i xs e
    unfold SlotIs
    rw [e, eqDs_ok _ _ h]
  · cases h
def gO (j : Nat) (items : List D) (g : MG) : MG := fun d ρ => if slotB ρ j items = true then g d ρ else none
def mLcO (j : Nat) (g : MG) (t : MT) (m : MD) (vs : List Nat) : ME := fun ρ => match ρ[j]? with
  | some (.own (.L items)) => if freeE ρ vs = true ∧ j ∉ vs then (mLcGo (gO j items g) t m vs items [] (wipeE ρ vs)).bind fun q => if slotB (unwipe ρ q.2 vs) j items = true then some (.nl (.L q.1), unwipe ρ q.2 vs) else none
    else none
  | _ => none
def tIO (K : PySem.W.Frag) (j : Nat) : TI := fun σ H R => ∃ a vs, σ[j]? = some (some (.ref a)) ∧ H a = some (.lst vs) ∧ R (Itl K a) H
theorem sq_lst {K : PySem.W.Frag} {H : Hp} {a : Addr} {xs : List V} (h : H a = some (.lst xs)) : SqL K H a xs := .inl (.inl h)
theorem i_own {X : Cx} {tg : Expr} {j : Nat} {x : Str} {pos : Pos} (hN : X.N[j]? = some x := by rfl) (hv : Vis X.env.scope x := by first | exact Or.inl rfl | exact Or.inr (Or.inl rfl) | exact Or.inr (Or.inr rfl)) (hd : (x == ("__debug__" : Str)) = false := by decide)
    (hcd : (x == ("__classdict__" : Str)) = false := by decide) : PI X tg (.Name x pos) (tIO X.K j) := by
  refine ⟨fun pins s σ H R I ⟨a, vs, e1, e2, k⟩ => ?_⟩
  have go := (pe_var (X := X) (pos := pos) hN hv hd hcd).run pins s σ H (fun x H1 => x = .ref a ∧ H1 = H) I ⟨.ref a, e1, rfl, rfl⟩
  refine thn go fun v s1 ⟨x, H1, I1, r1, ex, eH⟩ => ?_
  subst ex
  subst eH
  have newIt : ∀ b ∈ [s1.heap.objs.size], FpOk X pins H1 b := fun b hb => by
    rw [List.mem_singleton.mp hb]
    exact I1.fpOk (Nat.le_refl _) (I1.hok.fresh (Nat.le_refl _))
  cases r1
  obtain ⟨its, rv, pl, hz⟩ := I1.list (sq_lst e2)
  exact wpAny_pyIter_list pl.isList ⟨s1.heap.objs.size, [s1.heap.objs.size], _, _, H1, rfl, I1.kept (t' := s1.toks) fun b o q => Heap.get?_push_of_some _ q, turn_list _ _, ⟨_, Heap.get?_push_size _ rfl, rfl, rfl⟩, newIt, k⟩
section
variable {X : Cx} {elt tg iter : Expr} {ifs : List Expr} {scope : Scope} {own : List (Str × Nat)} {pos : Pos} {g : MG} {t : MT} {m : MD}
theorem slot_list {K : PySem.W.Frag} {H : Hp} {O : Addr → Prop} {σ : L2.St} {ρ : Ev} {j : Nat} {items : List D} (E : EnvOk K H O σ ρ) (h : SlotIs ρ j items) : ∃ a vs, σ[j]? = some (some (.ref a)) ∧ H a = some (.lst vs) ∧ FzAll K H O vs items := by
  obtain ⟨s, es, a, ea, oa, vs, h1, h2⟩ := E.slot j _ h
  subst ea
  exact ⟨a, vs, es, h1, h2⟩
theorem tLcO_of {K : PySem.W.Frag} {j : Nat} {vs : List Nat} : ∀ σ H Q, tE K (mLcO j g t m vs) σ H Q → tLc (tIO K j) (tGF K (Fz K) vs g) (tT K t) (tD1 K m) vs σ H Q := by
  intro σ H Q ⟨ρ, O, r, ρ', E, e1, k⟩
  unfold mLcO at e1
  split at e1
  case h_2 => cases e1
  rename_i items hsl
  split at e1
  case isFalse => cases e1
  rename_i hc
  obtain ⟨hf, hj⟩ := hc
  obtain ⟨⟨accF, ρF⟩, e4, e5⟩ := Option.bind_eq_some_iff.mp e1
  dsimp only at e5
  split at e5
  case isFalse => cases e5
  rename_i hfin
  have hfin := slotB_ok hfin
  cases e5
  obtain ⟨a, vs0, sa, ha, _⟩ := slot_list E hsl
  have wj : ∀ {σ' : L2.St}, (wipe σ vs)[j]? = some (some (.ref a)) := fun {σ'} => by rw [wipe_out hj]; exact sa
  have at_ : ∀ {Hc Ob ρb}, EnvOk K Hc Ob (wipe σ vs) ρb → SlotIs ρb j items → ∃ vsI, Hc a = some (.lst vsI) ∧ FzAll K Hc Ob vsI items := fun {Hc Ob ρb} Eb hs => by
    obtain ⟨b, vsI, sb, hb, fb⟩ := slot_list Eb hs
    rw [wj (σ' := σ)] at sb
    cases sb
    exact ⟨vsI, hb, fb⟩
  refine ⟨a, vs0, sa, ha, fun D hD => ?_⟩
  have R0 := ResOk.lst (K := K) (xs := []) (ds := []) E.tr hD .nil
  refine ⟨fun i n Hc => n = items.length - i ∧ i ≤ items.length ∧ ∃ ρb Ob acc accV, EnvOk K Hc Ob (wipe σ vs) ρb ∧ Stp (wipe σ vs) (wipeE ρ vs) O H (wipe σ vs) ρb Ob Hc ∧ Hc D = some (.lst accV) ∧ FzAll K Hc Ob accV acc ∧ Ob D ∧ ¬ Ed (wipe σ vs) ρb D ∧
      mLcGo (gO j items g) t m vs (items.drop i) acc ρb = some (accF, ρF),
    ⟨items.length, rfl, Nat.zero_le _, wipeE ρ vs, _, [], [], E.wiped.grow R0.keep R0.sub R0.more R0.tr, .grow R0.keep R0.sub R0.more, upd_same, .nil, .inr rfl, fun z => E.tr D (E.ed z.wiped) hD, e4⟩, ?_⟩
  rintro i n Hc ⟨rfl, hil, ρb, Ob, acc, accV, Eb, Sb, hDc, Fa, oD, nD, lg⟩
  by_cases hlt : i < items.length
  · have hcons : items.drop i = items[i] :: items.drop (i + 1) := List.drop_eq_getElem_cons hlt
    rw [hcons] at lg
    obtain ⟨ρ2, g1, lg⟩ := Option.bind_eq_some_iff.mp (show ((gO j items g) items[i] ρb).bind _ = _ from lg)
    obtain ⟨⟨b, ρ3⟩, t1, lg⟩ := Option.bind_eq_some_iff.mp lg
    unfold gO at g1
    split at g1
    case isFalse => cases g1
    rename_i hs
    have hs := slotB_ok hs
    obtain ⟨vsI, hvI, fI⟩ := at_ Eb hs
    obtain ⟨xi, ei, fxi⟩ := fI.get (List.getElem?_eq_getElem hlt)
    refine .inr ⟨⟨vsI, xi, sq_lst hvI, ei⟩, fun H' => ∃ ρb Ob acc accV, EnvOk K H' Ob (wipe σ vs) ρb ∧ Stp (wipe σ vs) (wipeE ρ vs) O H (wipe σ vs) ρb Ob H' ∧ H' D = some (.lst accV) ∧ FzAll K H' Ob accV acc ∧ Ob D ∧ ¬ Ed (wipe σ vs) ρb D ∧
        mLcGo (gO j items g) t m vs (items.drop (i + 1)) acc ρb = some (accF, ρF), fun H' q => ⟨_, by omega, rfl, hlt, q⟩, fun x Hy y => ?_⟩
    obtain ⟨eH, y⟩ := y
    subst eH
    have eY := y _ (sq_lst hvI)
    rw [ei] at eY
    cases eY
    refine ⟨ρb, Ob, items[i], ρ2, Eb, fxi, g1, fun σ2 H2 O2 E2 S2 W2 => ⟨(wipe_eq W2.2 W2.1).trans wipe_wipe, ?_⟩⟩
    have ws : wipe σ2 vs = wipe σ vs := (wipe_eq W2.2 W2.1).trans wipe_wipe
    refine ⟨ρ2, O2, b, ρ3, E2, t1, fun H3 O3 E3 S3 => ?_⟩
    have Syb := Stp.trans Eb.tr S2 S3
    have Fa3 := FzAll.mv (Syb.mv Eb) _ _ Fa
    have hD3 : H3 D = some (.lst accV) := Syb.keep D _ hDc nD
    have oD3 : O3 D := Syb.stay D oD nD
    have nD3 : ¬ Ed σ2 ρ3 D := fun z => (Syb.env D z).elim nD fun z => by rw [hDc] at z; cases z
    have Sb3 := Stp.trans E.tr Sb Syb
    cases b with
    | false =>
      have lg : mLcGo (gO j items g) t m vs (items.drop (i + 1)) acc (wipeE ρ3 vs) = some (accF, ρF) := lg
      refine iteF ⟨wipeE ρ3 vs, O3, acc, accV, ?_, ?_, hD3, Fa3, oD3, ?_, lg⟩
      · rw [← ws]; exact E3.wiped
      · rw [← ws]; exact Sb3.wipedTo ws
      · rw [← ws]; exact fun z => nD3 z.wiped
    | true =>
      obtain ⟨⟨dy, ρ4⟩, m1, lg⟩ := Option.bind_eq_some_iff.mp lg
      dsimp only at lg
      split at lg
      case isFalse => cases lg
      rename_i hz
      refine iteT ⟨ρ3, O3, dy, ρ4, E3, m1, fun yv H4 O4 E4 S4 F4 => ?_⟩
      have hD4 : H4 D = some (.lst accV) := S4.keep D _ hD3 nD3
      have oD4 : O4 D := S4.stay D oD3 nD3
      have nD4 : ¬ Ed σ2 ρ4 D := fun z => (S4.env D z).elim nD3 fun z => by rw [hD3] at z; cases z
      have Fa4 := FzAll.mv (S4.mv E3) _ _ Fa3
      have Sb4 := Stp.trans E.tr Sb3 S4
      refine ⟨accV, hD4, by rw [Fa.length]; exact hz, wipeE ρ4 vs, O4, acc ++ [dy], accV ++ [yv], ?_, ?_, upd_same, ?_, oD4, ?_, lg⟩
      · rw [← ws]; exact (E4.poke oD4 nD4).wiped
      · rw [← ws]; exact (Sb4.poke hD).wipedTo ws
      · exact FzAll.mv (poke_mv oD4) _ _ (Fa4.append (.cons F4 .nil))
      · rw [← ws]; exact fun z => nD4 z.wiped
  · have hi : i = items.length := by omega
    subst hi
    rw [List.drop_length] at lg
    cases lg
    have hfb : SlotIs ρF j items := by
      unfold SlotIs at hfin ⊢
      unfold unwipe at hfin
      rw [List.getElem?_mapIdx] at hfin
      cases hq : ρF[j]? with
      | none => rw [hq] at hfin; cases hfin
      | some c =>
        rw [hq, Option.map_some, if_neg hj] at hfin
        exact hfin
    obtain ⟨vsI, hvI, fI⟩ := at_ Eb hfb
    refine .inl ⟨⟨vsI, sq_lst hvI, by rw [fI.length]; exact Nat.le_refl _⟩, ?_⟩
    obtain ⟨EU, SU, ed⟩ := unwiped hf E Eb Sb
    exact k (.ref D) Hc Ob EU SU ⟨D, rfl, oD, fun z => nD (ed D z), hD, accV, hDc, Fa⟩
theorem s_setLcO {j i : Nat} {y : Str} {py spos : Pos} (hN : X.N.Nodup) (hi : PI X tg iter (tIO X.K j)) (ok : BlkOk X.N X.env.scope scope own) {tt : MT}
    (hg : ∀ (s : Shared) (H : Hp) (C : Addr) (cl : List (Str × Addr)) (fp : List Addr), PG (X.blk s H scope (compEnvC scope cl C X.env) fp) tg (tGF X.K (Fz X.K) (own.map (·.2)) g))
    (ht : ∀ (s : Shared) (H : Hp) (C : Addr) (cl : List (Str × Addr)) (fp : List Addr), PTs (X.blk s H scope (compEnvC scope cl C X.env) fp) ifs (tT X.K tt))
    (he : ∀ (s : Shared) (H : Hp) (C : Addr) (cl : List (Str × Addr)) (fp : List Addr), PE (X.blk s H scope (compEnvC scope cl C X.env) fp) elt (tD1 X.K m))
    (hy : X.N[i]? = some y := by rfl) (hyl : X.env.scope.names.lookup y = some .local := by rfl) (hsw : swapsWith (.ListComp elt [⟨tg, iter, ifs, 0⟩] scope pos) (some (.Name y py)) spos.line X.env = pure true := by exact sw_true rfl rfl rfl (by decide +kernel))
    (hc : X.calm = true := by rfl) (hs : ∀ x, foldedSetIterable iter X.env x = pure x := by intro _; rfl) :
    PS X (.Assign [.Name y py] (.ListComp elt [⟨tg, iter, ifs, 0⟩] scope pos) spos) (tS X.K (mSet i (mLcO j g tt m (own.map (·.2))))) :=
  PS.of (ps_setLc hc hN hy hyl hsw hi ok hg ht he hs) fun σ H D h => tLcO_of σ H _ (tSet_of σ H D h)
end
end PL

/-! PL42: for pair in zip(a, b), [.. for pair in zip(a, b)]: the pair is held by a name, so zip may not use its tuple again. -/
namespace PL
open PySem PySem.Spec PyProof.Rows L2
section
variable {prog : Program} {w : World} {A : Around} {E : Value → Shared → Prop} {s : Shared}
end
end PL
namespace PL
open PySem PySem.Spec PyProof.Rows L2
section
variable {prog : Program} {w : World} {A : Around} {E : Value → Shared → Prop} {s : Shared}
end
end PL
namespace PL
open PySem PySem.Spec PyProof.Rows L2
section
variable {prog : Program} {w : World} {A : Around} {E : Value → Shared → Prop} {s : Shared}
end
end PL
namespace PL
open PySem PySem.Spec PyProof.Rows L2
variable [TheW]
section
variable {K : PySem.W.Frag}
end
end PL

/-! PL43: d.setdefault(k, v), k a tuple. -/
namespace PL
open PySem PySem.Spec PyProof.Rows L2
variable [TheW]
abbrev rSetd (K : PySem.W.Frag) : V → List V → Hp → VK → Prop := fun x xs H Q => ∃ (a : Addr) (es : List (NestedKey × Addr × V)) (k : NestedKey) (b : Addr) (v : V), x = .ref a ∧ xs = [.ref b, v] ∧ TTab K H a es ∧ Mut (H a) ∧ NkV K H (.ref b) k ∧ es.length < sizeLine ∧
  (∀ v0, tget es k = some v0 → Q v0 H) ∧ (tget es k = none → Q v (upd H a (.ext (TDict TheW.w a (tput es k b v)))))
theorem mt_setd {X : Cx} (hw : X.w = TheW.w) (hu : X.A.units + 16 < cLine) : MtR X "dict.setdefault" (rSetd X.K) := by
  intro pins s σ H x xs v us Q I rx r q
  obtain ⟨a, es, k, b, d, ex, exs, t, mu, hk, hz, q1, q2⟩ := q
  subst ex
  subst exs
  cases (show v = Value.ref a from rx)
  cases r with
  | cons r1 rt =>
    cases rt with
    | cons r2 rt =>
      cases rt
      cases (show _ = Value.ref b from r1)
      obtain ⟨hd, _, ys, rr, dd⟩ := tt_of hw I t
      refine call_setdefault_heap (hsz := by rw [← Paired.length rr]; omega) (room8 hu).1 ⟨nkv_is I hk rfl, hk.1⟩ hd dd (fun p hp => ?_) (fun hn h' dd' hs => ?_)
      · have e1 := t_some (k := k) rr
        rw [hp] at e1
        obtain ⟨v0, h0⟩ := Option.isSome_iff_exists.mp e1.symm
        obtain ⟨w', hw', rw'⟩ := RelO.some_of (v := v0) (o := (atKey ys k).map (·.2)) (by rw [← h0]; exact tget_rel k rr)
        rw [hp] at hw'
        cases hw'
        exact ⟨v0, H, I.tok _, rw', q1 v0 h0⟩
      · have e1 := t_some (k := k) rr
        rw [hn] at e1
        have h0 : tget es k = none := Option.isNone_iff_eq_none.mp (by
          cases h : tget es k with
          | none => rfl
          | some v => rw [h] at e1; cases e1)
        have he : ∃ q, h'.get? a = some q := let ⟨q, _, _, hq, _⟩ := dd'; ⟨q, hq⟩
        exact ⟨d, _, d_write I mu hs he (td_new hw hd (by have := tput_len (es := es) (k := k) (b := b) (v := d); omega) (tput_rel k r2 rr) dd'), r2, q2 h0⟩
theorem sl_setdefault : Slot "dict" "setdefault" "dict.setdefault" := PySem.F.slot_dict_setdefault
theorem ty_setdefault : typeOf (.builtin "dict.setdefault") = pure (.type "method_descriptor") := PySem.F.type_dict_setdefault
def gSetd : OC → List D → Option (OC × D)
  | .M kvs, [.tuple ts, d] => (keyD (.tuple ts)).bind fun k => if kOk kvs (.tuple ts) = true ∧ kvs.length < 2 ^ 20 then (match dFind kvs k with
    | some v => some (.M kvs, v)
    | none => some (.M (dSet kvs k (.tuple ts) d), d)) else none
  | _, _ => none
theorem upd_id {H : Hp} {a : Addr} {u : HO} (h : H a = some u) : upd H a u = H := by
  funext b
  by_cases e : b = a
  · subst e
    rw [upd_same, h]
  · rw [upd_ne e]
theorem om_setd {K : PySem.W.Frag} : OpM K (rSetd K) gSetd := by
  intro H O a o o' xs ds z Q tr oa fa F g k
  have hl20 : (2 : Nat) ^ 20 ≤ sizeLine := by rw [sizeLine_eq]; decide
  unfold gSetd at g
  split at g
  rotate_left
  · cases g
  rename_i kvs ts d
  obtain ⟨nk, hk, g⟩ := Option.bind_eq_some_iff.mp g
  split at g
  rotate_left
  · cases g
  rename_i hok
  cases F with
  | cons fx ft =>
    cases ft with
    | cons f ft =>
      cases ft
      rename_i v1 v
      obtain ⟨⟨b, rfl⟩, hn⟩ := nkv_tup (.inl fx) hk
      have mv : ∀ u, Mv H O (upd H a u) O := fun u => ⟨fun b o h n => by rw [upd_ne (fun e : b = a => n (by rw [e]; exact oa))]; exact h, fun _ h => .inl h⟩
      rcases fa with ⟨ks, h1, h2, h3⟩ | ⟨es, h0, h1, h2, h3, h4⟩
      · cases ks with
        | cons q ks =>
          exfalso
          cases kvs with
          | nil => cases h2
          | cons p kvs =>
            obtain ⟨pk, pv⟩ := p
            obtain ⟨qk, qv⟩ := q
            have e1 : kD qk = pk := by injection h2
            have hok : (isTD pk == true) = true := hok.1
            rw [← e1] at hok
            cases qk <;> cases hok
        | nil =>
          cases kvs with
          | cons p kvs => cases h2
          | nil =>
            have g : some (OC.M [(PyData.tuple ts, d)], d) = some (o', z) := g
            cases g
            refine ⟨a, [], nk, b, v, rfl, rfl, .inr ⟨rfl, .inl h1⟩, by rw [h1]; trivial, hn, by rw [sizeLine_eq]; decide, (fun v0 (h : none = some v0) => by cases h), fun _ => k _ _ (.inr ⟨[(nk, b, v)], nofun, upd_same, ?_, .cons (Fz.mv (mv _) _ _ fx) .nil, .cons (Fz.mv (mv _) _ _ f) .nil⟩) (Fz.mv (mv _) _ _ f)⟩
            show [keyD (.tuple ts)] = _
            rw [hk]
            rfl
      · have kl : es.length = kvs.length := by have := congrArg List.length h2; simpa using this.symm
        have fo := find_t nk h2 h4
        refine ⟨a, es, nk, b, v, rfl, rfl, .inl ⟨h1, keys_t h2 h3⟩, by rw [h1]; trivial, hn, by omega, fun v0 e0 => ?_, fun e0 => ?_⟩
        · rw [e0] at fo
          cases ed : dFind kvs nk with
          | none => rw [ed] at fo; exact fo.elim
          | some d0 =>
            rw [ed] at fo g
            cases g
            have q := k (.ext (TDict TheW.w a es)) v0 (by rw [upd_id h1]; exact .inr ⟨es, h0, h1, h2, h3, h4⟩) (by rw [upd_id h1]; exact fo)
            rw [upd_id h1] at q
            exact q
        · rw [e0] at fo
          cases ed : dFind kvs nk with
          | some d0 => rw [ed] at fo; exact fo.elim
          | none =>
            rw [ed] at g
            cases g
            obtain ⟨p1, p2, p3⟩ := put_t nk hk fx f h2 h3 h4
            refine k _ _ (.inr ⟨tput es nk b v, ?_, upd_same, p1, FzKk.mv (mv _) _ _ p2, FzKv.mv (mv _) _ _ p3⟩) (Fz.mv (mv _) _ _ f)
            intro e
            have : (tput es nk b v).length = 0 := by rw [e]; rfl
            unfold tput at this
            split at this
            · rw [List.length_map] at this
              exact h0 (List.length_eq_zero_iff.mp this)
            · rw [List.length_append] at this
              cases es <;> simp at this
/-- a method that writes, of an own dict of any keys -/
def mMtT (i : Nat) (g : OC → List D → Option (OC × D)) (ms : MDs) : ME := fun ρ => (ocOf ρ[i]?).bind fun o0 => match o0 with
  | .M _ => (ms ρ).bind fun p => (ocOf p.2[i]?).bind fun o => (g o p.1).map fun q => (.d q.2, setOc p.2 i q.1)
  | .L _ => none
section
variable {X : Cx} {e : Expr} {es : List Expr} {x name : Str} {ms : MDs} {i : Nat} {id : String} {r : V → List V → Hp → VK → Prop} {g : OC → List D → Option (OC × D)} {p apos cpos : Pos}
theorem p_mtT (pa : PlainAttrs "dict") (slot : Slot "dict" name id) (hty : typeOf (.builtin id) = pure (.type "method_descriptor")) (hm : MtR X id r) (hg : OpM X.K r g) (ha : PA X (e :: es) (tDs X.K ms)) (hi : X.N[i]? = some x := by rfl) (hv : Vis X.env.scope x := by first | exact Or.inl rfl | exact Or.inr (Or.inl rfl) | exact Or.inr (Or.inr rfl))
    (hd : (x == ("__debug__" : Str)) = false := by decide) (hcd : (x == ("__classdict__" : Str)) = false := by decide)
    (hbase : attributeBase (.Name x p) name X.env (eval (.Name x p) X.env) = eval (.Name x p) X.env := by rfl)
    (hfew : ((backTo cpos (starEach (e :: es) X.env)).all (fun x => !x.1) && (backToKw cpos (keywordEach [] X.env)).all (fun x => x.1.isSome)
      && decide ((e :: es).length + ([] : List Keyword).length + (if ([] : List Keyword).isEmpty then 0 else 1) < 30)) = true := by rfl)
    (hline : (apos.endLine == cpos.line) = true := by rfl) (hs : starEach (e :: es) X.env = (false, eval e X.env) :: starEach es X.env := by rfl) (hplain : (backTo cpos (starEach es X.env)).any (·.1) = false := by rfl) :
    PE X (.Call (.Attribute (.Name x p) name apos) (e :: es) [] cpos) (tE X.K (mMtT i g ms)) := by
  refine ⟨fun pins s σ H Q I ⟨ρ, O, zr, ρ', E, e1, k⟩ => ?_⟩
  obtain ⟨o0, h0, e2⟩ := Option.bind_eq_some_iff.mp e1
  cases o0 with
  | L xs => cases e2
  | M kvs =>
    obtain ⟨a, es0, oa, fa, ed⟩ := oc_at E h0
    have hvar : PE X (.Name x p) (tVar i) := pe_var hi hv hd hcd
    refine wpAny_Call_method_late hbase hfew hline rfl (thn (hvar.run pins s σ H (fun y H1 => y = .ref a ∧ H1 = H) I ⟨.ref a, es0, rfl, rfl⟩) fun v s1 hh => ?_)
    obtain ⟨y, H1, I1, r1, ey, eH⟩ := hh
    subst ey
    subst eH
    obtain ⟨h1, h2⟩ := tyQ_is I1 r1 (lk_tyQ (d := .dict kvs) (.inr ⟨a, .M kvs, rfl, rfl, fa⟩) (.inr (.inr (.inr rfl))))
    refine ⟨"dict", id, pa, slot, hty, h1, h2, ?_⟩
    have hA := ha.run cpos pins s1 σ H1 (fun xs H2 => r (.ref a) xs H2 Q) I1 (mt_step hg E es0 h0 e2 k)
    rw [hs] at hA ⊢
    refine Calls.callWith_builtin (by show (false || (backTo cpos (starEach es X.env)).any (·.1)) = false; rw [hplain] <;> rfl) (Calls.evalArgs_plain ?_)
    exact thn hA fun us s2 ⟨vs, H2, I2, r2, q2⟩ => hm pins s2 σ H2 _ vs v us Q I2 r1 r2 q2
end
end PL
set_option maxHeartbeats 0
namespace PX
open PySem PySem.Spec PyProof.Rows L2 PL
abbrev top (i : Nat) : Stmt := PySem.Challenge.pw_eachinturn_k29_first_alike.main.body.getD i (.Pass ⟨0, 0, 0, 0⟩)
/-! ### the head -/
def dd__law_draw : He.DefD := ⟨("_law_draw", none), "_law_draw", "_law_draw", defArgs (top 30), defBody (top 30), defScope (top 30), [], []⟩
def dd__law_one : He.DefD := ⟨("_law_one", none), "_law_one", "_law_one", defArgs (top 31), defBody (top 31), defScope (top 31), [], []⟩
def dd__law_mixed : He.DefD := ⟨("_law_mixed", none), "_law_mixed", "_law_mixed", defArgs (top 32), defBody (top 32), defScope (top 32), [], []⟩
def dd__law_names : He.DefD := ⟨("_law_names", none), "_law_names", "_law_names", defArgs (top 33), defBody (top 33), defScope (top 33), [], []⟩
def dd__law_web : He.DefD := ⟨("_law_web", none), "_law_web", "_law_web", defArgs (top 34), defBody (top 34), defScope (top 34), [], []⟩
def dd__law_wide_web : He.DefD := ⟨("_law_wide_web", none), "_law_wide_web", "_law_wide_web", defArgs (top 37), defBody (top 37), defScope (top 37), [], []⟩
def dd__law_any_web : He.DefD := ⟨("_law_any_web", none), "_law_any_web", "_law_any_web", defArgs (top 38), defBody (top 38), defScope (top 38), [], []⟩
def dd__law_arrows : He.DefD := ⟨("_law_arrows", none), "_law_arrows", "_law_arrows", defArgs (top 36), defBody (top 36), defScope (top 36), [], []⟩
def dd__law_feed : He.DefD := ⟨("_law_feed", none), "_law_feed", "_law_feed", defArgs (top 29), defBody (top 29), defScope (top 29), [], []⟩
def dd__law_first : He.DefD := ⟨("_law_first", none), "_law_first", "_law_first", defArgs (top 44), defBody (top 44), defScope (top 44), [], []⟩
def dd__law_swapped : He.DefD := ⟨("_law_swapped", none), "_law_swapped", "_law_swapped", defArgs (top 41), defBody (top 41), defScope (top 41), [], []⟩
def dd__law_apart : He.DefD := ⟨("_law_apart", none), "_law_apart", "_law_apart", defArgs (top 40), defBody (top 40), defScope (top 40), [], []⟩
def dd__law_swaps : He.DefD := ⟨("_law_swaps", none), "_law_swaps", "_law_swaps", defArgs (top 42), defBody (top 42), defScope (top 42), [], []⟩
def dd__law_like : He.DefD := ⟨("_law_like", none), "_law_like", "_law_like", defArgs (top 43), defBody (top 43), defScope (top 43), [], []⟩
def dd__law_order : He.DefD := ⟨("_law_order", none), "_law_order", "_law_order", defArgs (top 35), defBody (top 35), defScope (top 35), [], []⟩
def dd__law_orders : He.DefD := ⟨("_law_orders", none), "_law_orders", "_law_orders", defArgs (top 39), defBody (top 39), defScope (top 39), [], []⟩
def dd_arrows_of : He.DefD := ⟨("arrows_of", none), "arrows_of", "arrows_of", defArgs (top 1), defBody (top 1), defScope (top 1), [], []⟩
def dd_are_unlike : He.DefD := ⟨("are_unlike", none), "are_unlike", "are_unlike", defArgs (top 14), defBody (top 14), defScope (top 14), [], []⟩
def dd_are_places : He.DefD := ⟨("are_places", none), "are_places", "are_places", defArgs (top 18), defBody (top 18), defScope (top 18), [], []⟩
def dd_is_row_of : He.DefD := ⟨("is_row_of", none), "is_row_of", "is_row_of", defArgs (top 13), defBody (top 13), defScope (top 13), [], []⟩
def dd_is_order : He.DefD := ⟨("is_order", none), "is_order", "is_order", defArgs (top 22), defBody (top 22), defScope (top 22), [], []⟩
def dd_need_order : He.DefD := ⟨("need_order", none), "need_order", "need_order", defArgs (top 23), defBody (top 23), defScope (top 23), [], []⟩
def dd_is_name : He.DefD := ⟨("is_name", none), "is_name", "is_name", defArgs (top 12), defBody (top 12), defScope (top 12), [], []⟩
def dd_is_road : He.DefD := ⟨("is_road", none), "is_road", "is_road", defArgs (top 19), defBody (top 19), defScope (top 19), [], []⟩
def dd_is_web_form : He.DefD := ⟨("is_web_form", none), "is_web_form", "is_web_form", defArgs (top 20), defBody (top 20), defScope (top 20), [], []⟩
def dd_need_web : He.DefD := ⟨("need_web", none), "need_web", "need_web", defArgs (top 21), defBody (top 21), defScope (top 21), [], []⟩
def dd_need_two_orders : He.DefD := ⟨("need_two_orders", none), "need_two_orders", "need_two_orders", defArgs (top 25), defBody (top 25), defScope (top 25), [], []⟩
def dd_are_alike : He.DefD := ⟨("are_alike", none), "are_alike", "are_alike", defArgs (top 26), defBody (top 26), defScope (top 26), [], []⟩
def dd_ahead_of : He.DefD := ⟨("ahead_of", none), "ahead_of", "ahead_of", defArgs (top 2), defBody (top 2), defScope (top 2), [], []⟩
def dd_first_order : He.DefD := ⟨("first_order", none), "first_order", "first_order", defArgs (top 3), defBody (top 3), defScope (top 3), [], []⟩
def dd_first_alike : He.DefD := ⟨("first_alike", none), "first_alike", "first_alike", defArgs (top 27), defBody (top 27), defScope (top 27), [], []⟩
def dd_law : He.DefD := ⟨("law", none), "law", "law", defArgs (top 45), defBody (top 45), defScope (top 45), [], []⟩
def fns : List He.DefD := [dd__law_draw, dd__law_one, dd__law_mixed, dd__law_names, dd__law_web, dd__law_wide_web, dd__law_any_web, dd__law_arrows, dd__law_feed, dd__law_first, dd__law_swapped, dd__law_apart, dd__law_swaps, dd__law_like, dd__law_order, dd__law_orders, dd_arrows_of, dd_are_unlike, dd_are_places, dd_is_row_of, dd_is_order, dd_need_order, dd_is_name, dd_is_road, dd_is_web_form, dd_need_web, dd_need_two_orders, dd_are_alike, dd_ahead_of, dd_first_order, dd_first_alike, dd_law]
def fas : List He.Fa := [.glo "_law_draw", .glo "_law_one", .glo "_law_mixed", .glo "_law_names", .glo "_law_web", .glo "_law_wide_web", .glo "_law_any_web", .glo "_law_arrows", .glo "_law_feed", .glo "_law_first", .glo "_law_swapped", .glo "_law_apart", .glo "_law_swaps", .glo "_law_like", .glo "_law_order", .glo "_law_orders", .glo "arrows_of", .glo "are_unlike", .glo "are_places", .glo "is_row_of", .glo "is_order", .glo "need_order", .glo "is_name", .glo "is_road", .glo "is_web_form", .glo "need_web", .glo "need_two_orders", .glo "are_alike", .glo "ahead_of", .glo "first_order", .glo "first_alike", .glo "law", .free "all", .free "enumerate", .free "int", .free "isinstance", .free "len", .free "list", .free "max", .free "min", .free "range", .free "repr", .free "set", .free "sorted", .free "str", .free "sum", .free "tuple", .str "DIGITS" "0123456789", .str "LETTERS" "abcdefghijklmnopqrstuvwxyz", .int "MOST_PLACES" 8, .int "MOST_ROADS" 14, .int "MOST_SIGNS" 8]
abbrev Rw : PySem.W.OpenRow := PySem.W.OpenLaw.row PySem.Challenge.rw_eachinturn_k29_first_alike
def css : List (PySem.Str × D) := []
abbrev hk : PySem.W.Hook := PL.hookP 4 fas fns css
def obs (s : PySem.W.SharedT) : PL.AlP := PL.obsPG 4 fas fns css (HandSHeadRun.getT s)
theorem obs_eq (s : PySem.W.SharedT) : obs s = hk.obs s.abs := by
  have e : HandSHeadRun.getT s = s.abs.heap.get? := funext (HandSHeadRun.getT_eq s)
  show PL.obsPG _ _ _ _ (HandSHeadRun.getT s) = _
  rw [e] <;> rfl
def loose0 : List PySem.Str := ["arrows_of", "ahead_of", "first_order", "TurnError", "BadWeb", "BadOrder", "LETTERS", "DIGITS", "MOST_SIGNS", "is_name", "is_row_of", "are_unlike", "MOST_PLACES", "MOST_ROADS", "are_places", "is_road", "is_web_form", "need_web", "is_order", "need_order", "need_two_orders", "are_alike", "first_alike", "_law_feed", "_law_draw", "_law_one", "_law_mixed", "_law_names", "_law_web", "_law_order"]
def loose1 : List PySem.Str := ["_law_arrows", "_law_wide_web", "_law_any_web", "_law_orders", "_law_apart", "_law_swapped", "_law_swaps", "_law_like", "_law_first"]
def loose : List PySem.Str := loose0 ++ loose1
theorem run (w : World) : HandSHeadRun.RunEq Rw (PySem.W.view Rw.prog [45]) hk obs 4000 loose w := by
  intro os
  kernel_rfl
end PX
set_option maxHeartbeats 8000000
namespace PK
open PySem PySem.Spec PyProof.Rows L2 PL
def ms__law_draw : MS := (mSeq (mIfS (mB (m2 gGt (m2 gIx (mVar 0) (mC (.int 0))) (mC (.int 0)))) (mSeq (mSet 2 (m2 gDiv (m2 gIx (mVar 0) (mC (.int 0))) (mVar 1)))
  (mSeq (mSet 3 (m2 gSub (m2 gIx (mVar 0) (mC (.int 0))) (m2 gMul (mVar 2) (mVar 1))))
  (mSeq (mPut 0 (mC (.int 0)) (mVar 2))
  (mRet (mVar 3))))) mNx)
  (mSeq (mPut 0 (mC (.int 2)) (m2 gAdd (m2 gIx (mVar 0) (mC (.int 2))) (mC (.int 1))))
  (mSeq (mSet 4 (m2 gAdd (m2 gIx (mVar 0) (mC (.int 1))) (m2 gMul (mC (.int 6700417)) (m2 gIx (mVar 0) (mC (.int 2))))))
  (mSeq (mSet 4 (m2 gMod (mCallN gInt (mACons (m2 gAdd (m2 gMul (m2 gMul (mVar 4) (mVar 4)) (mVar 4)) (m2 gMul (mC (.int 15485863)) (m2 gIx (mVar 0) (mC (.int 2))))) mANil)) (m2 gAdd (m2 gPow (mC (.int 10)) (mC (.int 43))) (mC (.int 57)))))
  (mSeq (mSet 4 (m2 gMod (mCallN gInt (mACons (m2 gAdd (m2 gMul (mVar 4) (mVar 4)) (mC (.int 32452843))) mANil)) (m2 gAdd (m2 gPow (mC (.int 10)) (mC (.int 38))) (mC (.int 133)))))
  (mRet (m2 gMod (mCallN gInt (mACons (m2 gDiv (mVar 4) (m2 gPow (mC (.int 10)) (mC (.int 9)))) mANil)) (mVar 1))))))))
def fm__law_draw : ME := mFn 2 5 ms__law_draw
def ms__law_feed : MS := (mSeq (mSet 2 (m2 gAdd (m2 gMul (mC (.int 977)) (mVar 1)) (mCallN gSum (mACons (mSl (mVar 0) mONone (mOSome (mC (.int 1)))) mANil))))
  (mSeq (mIfS (mB (m2 gLt (mVar 1) (mCallN gLen (mACons (mVar 0) mANil)))) (mSet 2 (m2 gIx (mVar 0) (mVar 1))) mNx)
  (mRet (mLst (mDsCons (mF (mCallN gMax2 (mACons (mC (.int 0)) (mACons (m2 gSub (mVar 2) (m2 gPow (mC (.int 10)) (mC (.int 18)))) mANil)))) (mDsCons (mF (m2 gMod (mCallN gInt (mACons (m2 gAdd (m2 gMul (mVar 2) (mC (.int 19))) (m2 gMul (mC (.int 7)) (mVar 1))) mANil)) (m2 gAdd (m2 gPow (mC (.int 10)) (mC (.int 39))) (mC (.int 23))))) (mDsCons (mF (mC (.int 0))) mDsNil)))))))
def fm__law_feed : ME := mFn 2 3 ms__law_feed
def ms__law_mixed : MS := (mSeq (mPar2 2 3 (mACons (mCallN gList (mACons (mVar 1) mANil)) (mACons (mLst mDsNil) mANil)))
  (mSeq (mFor (mRange1 (mDsCons (mF (mCallN gLen (mACons (mVar 1) mANil))) mDsNil)) (gN 4) (mDrop (mMt "list" 3 gApp (mDsCons (mF (mMt "list" 2 gPopAt (mDsCons (mF (mCall fm__law_draw (mACons (mVar 0) (mACons (mCallN gLen (mACons (mVar 2) mANil)) mANil)))) mDsNil))) mDsNil))))
  (mRet (mVar 3))))
def fm__law_mixed : ME := mFn 2 5 ms__law_mixed
def ms__law_one : MS := (mRet (m2 gIx (mVar 1) (mCall fm__law_draw (mACons (mVar 0) (mACons (mCallN gLen (mACons (mVar 1) mANil)) mANil)))))
def fm__law_one : ME := mFn 2 2 ms__law_one
def ms__law_names : MS := (mRet (mSl (mCall fm__law_mixed (mACons (mVar 0) (mACons (mLst (mDsCons (mF (mC (.str "a"))) (mDsCons (mF (mC (.str "b10"))) (mDsCons (mF (mC (.str "b"))) (mDsCons (mF (mC (.str "zz"))) (mDsCons (mF (mC (.str "a1"))) (mDsCons (mF (mC (.str "q1w2e3r4"))) (mDsCons (mF (mC (.str "b9"))) (mDsCons (mF (mC (.str "x"))) (mDsCons (mF (mC (.str "m0"))) (mDsCons (mF (mC (.str "road"))) (mDsCons (mF (mC (.str "k"))) (mDsCons (mF (mC (.str "a1b"))) mDsNil))))))))))))) mANil))) mONone (mOSome (mVar 1))))
def fm__law_names : ME := mFn 2 2 ms__law_names
def ms__law_web : MS := (mSeq (mSet 3 (mIf (mB (m2 gEq (mVar 1) (mC (.str "ring")))) (mCallN gMax2 (mACons (mC (.int 3)) (mACons (m2 gAdd (mC (.int 1)) (mCall fm__law_draw (mACons (mVar 0) (mACons (mVar 2) mANil)))) mANil))) (m2 gAdd (mC (.int 1)) (mCall fm__law_draw (mACons (mVar 0) (mACons (mVar 2) mANil))))))
  (mSeq (mPar2 4 5 (mACons (mLst mDsNil) (mACons (mCall fm__law_draw (mACons (mVar 0) (mACons (mC (.int 3)) mANil))) mANil)))
  (mSeq (mFor (mRange2 (mDsCons (mF (mC (.int 1))) (mDsCons (mF (mVar 3)) mDsNil))) (gN 6) (mSeq (mSet 7 (mIf (mOr (mB (m2 gEq (mVar 5) (mC (.int 0)))) (mB (m2 gEq (mVar 1) (mC (.str "ring"))))) (m2 gSub (mVar 6) (mC (.int 1))) (mIf (mB (m2 gEq (mVar 5) (mC (.int 1)))) (mC (.int 0)) (mCall fm__law_draw (mACons (mVar 0) (mACons (mVar 6) mANil))))))
  (mIfS (mOr (mB (m2 gNe (mVar 1) (mC (.str "any")))) (mB (m2 gGt (mCall fm__law_draw (mACons (mVar 0) (mACons (mC (.int 5)) mANil))) (mC (.int 0))))) (mDrop (mMt "list" 4 gApp (mDsCons (mF (mTup (mDsCons (mF (mVar 7)) (mDsCons (mF (mVar 6)) mDsNil)))) mDsNil))) mNx)))
  (mSeq (mIfS (mB (m2 gEq (mVar 1) (mC (.str "ring")))) (mDrop (mMt "list" 4 gApp (mDsCons (mF (mTup (mDsCons (mF (mC (.int 0))) (mDsCons (mF (m2 gSub (mVar 3) (mC (.int 1)))) mDsNil)))) mDsNil))) mNx)
  (mSeq (mFor (mRange1 (mDsCons (mF (mIf (mAnd (mB (m2 gIn (mVar 1) (mTup (mDsCons (mF (mC (.str "whole"))) (mDsCons (mF (mC (.str "any"))) mDsNil))))) (mB (m2 gGt (mVar 3) (mC (.int 2))))) (mCall fm__law_draw (mACons (mVar 0) (mACons (mC (.int 5)) mANil))) (mC (.int 0)))) mDsNil)) (gN 8) (mSeq (mSet 9 (mCall fm__law_draw (mACons (mVar 0) (mACons (mVar 3) mANil))))
  (mSeq (mSet 10 (m2 gMod (mCallN gInt (mACons (m2 gAdd (m2 gAdd (mVar 9) (mC (.int 1))) (mCall fm__law_draw (mACons (mVar 0) (mACons (m2 gSub (mVar 3) (mC (.int 1))) mANil)))) mANil)) (mVar 3)))
  (mSeq (mSet 11 (mTup (mDsCons (mF (mCallN gMin2 (mACons (mVar 9) (mACons (mVar 10) mANil)))) (mDsCons (mF (mCallN gMax2 (mACons (mVar 9) (mACons (mVar 10) mANil)))) mDsNil))))
  (mIfS (mB (m2 gNotIn (mVar 11) (mVar 4))) (mDrop (mMt "list" 4 gApp (mDsCons (mF (mVar 11)) mDsNil))) mNx)))))
  (mSeq (mSet 12 (mCall fm__law_names (mACons (mVar 0) (mACons (mVar 3) mANil))))
  (mSeq (mSet 13 (mLst mDsNil))
  (mSeq (mFor (mSeqI (mCall fm__law_mixed (mACons (mVar 0) (mACons (mVar 4) mANil)))) (gTup' 2 (gCons' (gN 9) (gCons' (gN 10) gNil'))) (mDrop (mMt "list" 13 gApp (mDsCons (mF (mIf (mB (m2 gEq (mCall fm__law_draw (mACons (mVar 0) (mACons (mC (.int 2)) mANil))) (mC (.int 0)))) (mTup (mDsCons (mF (m2 gIx (mVar 12) (mVar 9))) (mDsCons (mF (m2 gIx (mVar 12) (mVar 10))) mDsNil))) (mTup (mDsCons (mF (m2 gIx (mVar 12) (mVar 10))) (mDsCons (mF (m2 gIx (mVar 12) (mVar 9))) mDsNil))))) mDsNil))))
  (mRet (mTup (mDsCons (mF (mCallN gTuple (mACons (mCall fm__law_mixed (mACons (mVar 0) (mACons (mVar 12) mANil))) mANil))) (mDsCons (mF (mCallN gTuple (mACons (mVar 13) mANil))) mDsNil))))))))))))
def fm__law_web : ME := mFn 3 14 ms__law_web
def ms_are_unlike : MS := (mRet (m2 gEq (m1 gLenSet (mVar 0)) (mCallN gLen (mACons (mVar 0) mANil))))
def fm_are_unlike : ME := mFn 1 1 ms_are_unlike
def ms_is_name : MS := (mSeq (mIfS (mOr (mNot (mB (m1 (gIsi "str") (mVar 0)))) (mOr (mNot (mB (mChain gLe gLe (mC (.int 1)) (mCallN gLen (mACons (mVar 0) mANil)) (mC (.int 8))))) (mB (m2 gNotIn (m2 gIx (mVar 0) (mC (.int 0))) (mC (.str "abcdefghijklmnopqrstuvwxyz")))))) (mRet (mC (.bool false))) mNx)
  (mRet (mCallN gAll (mACons (mLc (mSeqI (mVar 0)) (gN 1) mYes (mF (mOrV (m2 gIn (mVar 1) (mC (.str "abcdefghijklmnopqrstuvwxyz"))) (m2 gIn (mVar 1) (mC (.str "0123456789"))))) [1]) mANil))))
def fm_is_name : ME := mFn 1 2 ms_is_name
def ms_are_places : MS := (mRet (mAndV (mCallN gAll (mACons (mLc (mSeqI (mVar 1)) (gN 2) mYes (mF (mAndV (m1 (gIsi "str") (mVar 2)) (m2 gIn (mVar 2) (mVar 0)))) [2]) mANil)) (mCall fm_are_unlike (mACons (mVar 1) mANil))))
def fm_are_places : ME := mFn 2 3 ms_are_places
def ms_is_row_of : MS := (mRet (mAndV (m1 (gIsi "tuple") (mVar 0)) (mChain gLe gLe (mVar 1) (mCallN gLen (mACons (mVar 0) mANil)) (mVar 2))))
def fm_is_row_of : ME := mFn 3 3 ms_is_row_of
def ms_is_road : MS := (mRet (mAndV (mCall fm_is_row_of (mACons (mVar 1) (mACons (mC (.int 2)) (mACons (mC (.int 2)) mANil)))) (mCall fm_are_places (mACons (mVar 0) (mACons (mVar 1) mANil)))))
def fm_is_road : ME := mFn 2 2 ms_is_road
def ms_is_web_form : MS := (mSeq (mIfS (mOr (mNot (mB (mCall fm_is_row_of (mACons (mVar 0) (mACons (mC (.int 2)) (mACons (mC (.int 2)) mANil)))))) (mNot (mB (mCall fm_is_row_of (mACons (m2 gIx (mVar 0) (mC (.int 0))) (mACons (mC (.int 1)) (mACons (mC (.int 8)) mANil))))))) (mRet (mC (.bool false))) mNx)
  (mSeq (mAsg (gTup' 2 (gCons' (gN 1) (gCons' (gN 2) gNil'))) (mVar 0))
  (mSeq (mIfS (mOr (mNot (mB (mCallN gAll (mACons (mLc (mSeqI (mVar 1)) (gN 3) mYes (mF (mCall fm_is_name (mACons (mVar 3) mANil))) [3]) mANil)))) (mNot (mB (mCall fm_are_unlike (mACons (mVar 1) mANil))))) (mRet (mC (.bool false))) mNx)
  (mSeq (mIfS (mOr (mNot (mB (mCall fm_is_row_of (mACons (mVar 2) (mACons (mC (.int 0)) (mACons (mC (.int 14)) mANil)))))) (mNot (mB (mCallN gAll (mACons (mLc (mSeqI (mVar 2)) (gN 4) mYes (mF (mCall fm_is_road (mACons (mVar 1) (mACons (mVar 4) mANil)))) [4]) mANil))))) (mRet (mC (.bool false))) mNx)
  (mRet (mCall fm_are_unlike (mACons (mLc (mSeqI (mVar 2)) (gN 4) mYes (mF (mCallN gTuple (mACons (mCallN gSorted (mACons (mVar 4) mANil)) mANil))) [4]) mANil)))))))
def fm_is_web_form : ME := mFn 1 5 ms_is_web_form
end PK

namespace PK
open PySem PySem.Spec PyProof.Rows L2 PL
def ms__law_order : MS := (mRet (mCallN gTuple (mACons (mCall fm__law_mixed (mACons (mVar 0) (mACons (m2 gIx (mVar 1) (mC (.int 0))) mANil))) mANil)))
def fm__law_order : ME := mFn 2 2 ms__law_order
def ms_is_order : MS := (mRet (mAndV (mCall fm_is_row_of (mACons (mVar 1) (mACons (mCallN gLen (mACons (m2 gIx (mVar 0) (mC (.int 0))) mANil)) (mACons (mCallN gLen (mACons (m2 gIx (mVar 0) (mC (.int 0))) mANil)) mANil)))) (mCall fm_are_places (mACons (m2 gIx (mVar 0) (mC (.int 0))) (mACons (mVar 1) mANil)))))
def fm_is_order : ME := mFn 2 2 ms_is_order
def ms_need_order : MS := (mIfS (mNot (mB (mCall fm_is_order (mACons (mVar 0) (mACons (mVar 1) mANil))))) mNever mNx)
def fm_need_order : ME := mFn 2 2 ms_need_order
def ms_exchanged : MS := (mRet (m2 gAdd (m2 gAdd (mSl (mVar 0) mONone (mOSome (mVar 1))) (mTup (mDsCons (mF (m2 gIx (mVar 0) (m2 gAdd (mVar 1) (mC (.int 1))))) (mDsCons (mF (m2 gIx (mVar 0) (mVar 1))) mDsNil)))) (mSl (mVar 0) (mOSome (m2 gAdd (mVar 1) (mC (.int 2)))) mONone)))
def fm_exchanged : ME := mFn 2 2 ms_exchanged
end PK

namespace PK
open PySem PySem.Spec PyProof.Rows L2 PL
end PK

namespace PK
open PySem PySem.Spec PyProof.Rows L2 PL
end PK

namespace PK
open PySem PySem.Spec PyProof.Rows L2 PL
def ms__law_wide_web : MS := (mSeq (mPar2 2 3 (mACons (m2 gAdd (mC (.int 1)) (mCall fm__law_draw (mACons (mVar 0) (mACons (mVar 1) mANil)))) (mACons (mLst mDsNil) mANil)))
  (mSeq (mSet 4 (mCall fm__law_names (mACons (mVar 0) (mACons (mVar 2) mANil))))
  (mSeq (mFor (mRange1 (mDsCons (mF (mVar 2)) mDsNil)) (gN 5) (mDrop (mMt "list" 3 gExt (mDsCons (mF (mLc (mRange1 (mDsCons (mF (mVar 5)) mDsNil)) (gN 7) mYes (mF (mTup (mDsCons (mF (m2 gIx (mVar 4) (mVar 5))) (mDsCons (mF (m2 gIx (mVar 4) (mVar 7))) mDsNil)))) [7])) mDsNil))))
  (mSeq (mSet 6 (mSl (mCall fm__law_mixed (mACons (mVar 0) (mACons (mVar 3) mANil))) mONone (mOSome (mCall fm__law_draw (mACons (mVar 0) (mACons (m2 gAdd (mCallN gMin2 (mACons (mC (.int 14)) (mACons (mCallN gLen (mACons (mVar 3) mANil)) mANil))) (mC (.int 1))) mANil))))))
  (mSeq (mSet 6 (mLc (mSeqI (mVar 6)) (gTup' 2 (gCons' (gN 8) (gCons' (gN 9) gNil'))) mYes (mF (mIf (mB (m2 gEq (mCall fm__law_draw (mACons (mVar 0) (mACons (mC (.int 2)) mANil))) (mC (.int 0)))) (mTup (mDsCons (mF (mVar 9)) (mDsCons (mF (mVar 8)) mDsNil))) (mTup (mDsCons (mF (mVar 8)) (mDsCons (mF (mVar 9)) mDsNil))))) [8, 9]))
  (mRet (mTup (mDsCons (mF (mCallN gTuple (mACons (mCall fm__law_mixed (mACons (mVar 0) (mACons (mVar 4) mANil))) mANil))) (mDsCons (mF (mCallN gTuple (mACons (mVar 6) mANil))) mDsNil)))))))))
def fm__law_wide_web : ME := mFn 2 10 ms__law_wide_web
def ms__law_any_web : MS := (mSeq (mIfS (mB (m2 gEq (mCall fm__law_draw (mACons (mVar 0) (mACons (mC (.int 2)) mANil))) (mC (.int 0)))) (mRet (mCall fm__law_wide_web (mACons (mVar 0) (mACons (mVar 1) mANil)))) mNx)
  (mRet (mCall fm__law_web (mACons (mVar 0) (mACons (mCall fm__law_one (mACons (mVar 0) (mACons (mLst (mDsCons (mF (mC (.str "tree"))) (mDsCons (mF (mC (.str "ring"))) (mDsCons (mF (mC (.str "whole"))) (mDsCons (mF (mC (.str "any"))) mDsNil))))) mANil))) (mACons (mVar 1) mANil))))))
def fm__law_any_web : ME := mFn 2 2 ms__law_any_web
def ms__law_arrows : MS := (mRet (mCallN gTuple (mACons (mLc (mSeqI (m2 gIx (mVar 0) (mC (.int 1)))) (gN 2) mYes (mF (mIf (mB (m2 gLt (mMq "tuple" gIndexT (mVar 1) (mACons (m2 gIx (mVar 2) (mC (.int 0))) mANil)) (mMq "tuple" gIndexT (mVar 1) (mACons (m2 gIx (mVar 2) (mC (.int 1))) mANil)))) (mVar 2) (mTup (mDsCons (mF (m2 gIx (mVar 2) (mC (.int 1)))) (mDsCons (mF (m2 gIx (mVar 2) (mC (.int 0)))) mDsNil))))) [2]) mANil)))
def fm__law_arrows : ME := mFn 2 3 ms__law_arrows
def ms__law_swapped : MS := (mRet (m2 gAdd (m2 gAdd (mSl (mVar 0) mONone (mOSome (mVar 1))) (mTup (mDsCons (mF (m2 gIx (mVar 0) (m2 gAdd (mVar 1) (mC (.int 1))))) (mDsCons (mF (m2 gIx (mVar 0) (mVar 1))) mDsNil)))) (mSl (mVar 0) (mOSome (m2 gAdd (mVar 1) (mC (.int 2)))) mONone)))
def fm__law_swapped : ME := mFn 2 2 ms__law_swapped
def ms_arrows_of : MS := (mSeq (mSet 2 (mDc (mEnumT (mDsCons (mF (mVar 1)) mDsNil)) (gTup' 2 (gCons' (gN 3) (gCons' (gN 4) gNil'))) mYes (mF (mVar 4)) (mF (mVar 3)) [3, 4]))
  (mRet (mCallN gTuple (mACons (mLc (mSeqI (m2 gIx (mVar 0) (mC (.int 1)))) (gTup' 2 (gCons' (gN 5) (gCons' (gN 6) gNil'))) mYes (mF (mIf (mB (m2 gLt (m2 gIx (mVar 2) (mVar 5)) (m2 gIx (mVar 2) (mVar 6)))) (mTup (mDsCons (mF (mVar 5)) (mDsCons (mF (mVar 6)) mDsNil))) (mTup (mDsCons (mF (mVar 6)) (mDsCons (mF (mVar 5)) mDsNil))))) [5, 6]) mANil))))
def fm_arrows_of : ME := mFn 2 7 ms_arrows_of
def ms_need_web : MS := (mIfS (mNot (mB (mCall fm_is_web_form (mACons (mVar 0) mANil)))) mNever mNx)
def fm_need_web : ME := mFn 1 1 ms_need_web
def ms__law_apart : MS := (mRet (mAndV (m2 gNotIn (mTup (mDsCons (mF (mVar 1)) (mDsCons (mF (mVar 2)) mDsNil))) (m2 gIx (mVar 0) (mC (.int 1)))) (m2 gNotIn (mTup (mDsCons (mF (mVar 2)) (mDsCons (mF (mVar 1)) mDsNil))) (m2 gIx (mVar 0) (mC (.int 1))))))
def fm__law_apart : ME := mFn 3 3 ms__law_apart
def ms__law_swaps : MS := (mRet (mLc (mRange1 (mDsCons (mF (m2 gSub (mCallN gLen (mACons (mVar 1) mANil)) (mC (.int 1)))) mDsNil)) (gN 2) (mB (mCall fm__law_apart (mACons (mVar 0) (mACons (m2 gIx (mVar 1) (mVar 2)) (mACons (m2 gIx (mVar 1) (m2 gAdd (mVar 2) (mC (.int 1)))) mANil))))) (mF (mVar 2)) [2]))
def fm__law_swaps : ME := mFn 2 3 ms__law_swaps
def ms__law_like : MS := (mSeq (mSet 4 (mLst mDsNil))
  (mSeq (mFor (mRange1 (mDsCons (mF (mCall fm__law_draw (mACons (mVar 0) (mACons (m2 gAdd (mVar 3) (mC (.int 1))) mANil)))) mDsNil)) (gN 5) (mSeq (mSet 6 (mCall fm__law_swaps (mACons (mVar 1) (mACons (mVar 2) mANil))))
  (mIfS (mB (m2 gNe (mVar 6) (mLst mDsNil))) (mSeq (mDrop (mMt "list" 4 gApp (mDsCons (mF (mCall fm__law_one (mACons (mVar 0) (mACons (mVar 6) mANil)))) mDsNil)))
  (mSet 2 (mCall fm__law_swapped (mACons (mVar 2) (mACons (m2 gIx (mVar 4) (m1 gNeg (mC (.int 1)))) mANil))))) mNx)))
  (mRet (mTup (mDsCons (mF (mVar 4)) (mDsCons (mF (mVar 2)) mDsNil))))))
def fm__law_like : ME := mFn 4 7 ms__law_like
def ms_need_two_orders : MS := (mSeq (mDrop (mCall fm_need_web (mACons (mVar 0) mANil)))
  (mSeq (mDrop (mCall fm_need_order (mACons (mVar 0) (mACons (mVar 1) mANil))))
  (mDrop (mCall fm_need_order (mACons (mVar 0) (mACons (mVar 2) mANil))))))
def fm_need_two_orders : ME := mFn 3 3 ms_need_two_orders
end PK

namespace PK
open PySem PySem.Spec PyProof.Rows L2 PL
def ms_path_between_b : MS := (mSeq (mIfS (mB (m2 gNe (mCall fm_arrows_of (mACons (mVar 0) (mACons (mVar 1) mANil))) (mCall fm_arrows_of (mACons (mVar 0) (mACons (mVar 2) mANil))))) (mRet (mC .none)) mNx)
  (mSeq (mSet 3 (mLst mDsNil))
  (mSeq (mFor (mEnumT (mDsCons (mF (mVar 2)) mDsNil)) (gTup' 2 (gCons' (gN 4) (gCons' (gN 5) gNil'))) (mFor (mRange3 (mDsCons (mF (m2 gSub (mMq "tuple" gIndexT (mVar 1) (mACons (mVar 5) mANil)) (mC (.int 1)))) (mDsCons (mF (m2 gSub (mVar 4) (mC (.int 1)))) (mDsCons (mF (m1 gNeg (mC (.int 1)))) mDsNil)))) (gN 6) (mSeq (mDrop (mMt "list" 3 gApp (mDsCons (mF (mVar 6)) mDsNil)))
  (mSet 1 (mCall fm_exchanged (mACons (mVar 1) (mACons (mVar 6) mANil)))))))
  (mRet (mVar 3)))))
def fm_path_between_b : ME := mFn 3 7 ms_path_between_b
def ms_exchanges_b : MS := (mSeq (mDrop (mCall fm_need_two_orders (mACons (mVar 0) (mACons (mVar 1) (mACons (mVar 2) mANil)))))
  (mRet (mCall fm_path_between_b (mACons (mVar 0) (mACons (mVar 1) (mACons (mVar 2) mANil))))))
def fm_exchanges_b : ME := mFn 3 3 ms_exchanges_b
end PK

namespace PK
open PySem PySem.Spec PyProof.Rows L2 PL
end PK

namespace PK
open PySem PySem.Spec PyProof.Rows L2 PL
def ms__law_orders : MS := (mSeq (mSet 1 (mLst (mDsCons (mF (mTup mDsNil)) mDsNil)))
  (mSeq (mFor (mSeqI (m2 gIx (mVar 0) (mC (.int 0)))) (gN 2) (mSeq (mSet 3 (mLst mDsNil))
  (mSeq (mFor (mSeqI (mVar 1)) (gN 4) (mDrop (mMt "list" 3 gExt (mDsCons (mF (mLc (mSeqI (m2 gIx (mVar 0) (mC (.int 0)))) (gN 5) (mB (m2 gNotIn (mVar 5) (mVar 4))) (mF (m2 gAdd (mVar 4) (mTup (mDsCons (mF (mVar 5)) mDsNil)))) [5])) mDsNil))))
  (mSet 1 (mVar 3)))))
  (mRet (mVar 1))))
def fm__law_orders : ME := mFn 1 6 ms__law_orders
def ms_are_alike : MS := (mSeq (mDrop (mCall fm_need_two_orders (mACons (mVar 0) (mACons (mVar 1) (mACons (mVar 2) mANil)))))
  (mRet (m2 gEq (mCall fm_arrows_of (mACons (mVar 0) (mACons (mVar 1) mANil))) (mCall fm_arrows_of (mACons (mVar 0) (mACons (mVar 2) mANil))))))
def fm_are_alike : ME := mFn 3 3 ms_are_alike
end PK

namespace PK
open PySem PySem.Spec PyProof.Rows L2 PL
end PK

namespace PK
open PySem PySem.Spec PyProof.Rows L2 PL
end PK

namespace PK
open PySem PySem.Spec PyProof.Rows L2 PL
end PK

namespace PK
open PySem PySem.Spec PyProof.Rows L2 PL
def ms__law_first : MS := (mSeq (mSet 2 (mLst mDsNil))
  (mSeq (mFor (mSeqI (m2 gIx (mVar 0) (mC (.int 0)))) (gN 3) (mSeq (mSet 4 (mLst mDsNil))
  (mSeq (mFor (mSeqI (m2 gIx (mVar 0) (mC (.int 0)))) (gN 5) (mIfS (mAnd (mB (m2 gNotIn (mVar 5) (mVar 2))) (mB (m2 gEq (mLc (mSeqI (mVar 1)) (gTup' 2 (gCons' (gN 6) (gCons' (gN 7) gNil'))) (mAnd (mB (m2 gEq (mVar 7) (mVar 5))) (mB (m2 gNotIn (mVar 6) (mVar 2)))) (mF (mVar 6)) [6, 7]) (mLst mDsNil)))) (mDrop (mMt "list" 4 gApp (mDsCons (mF (mVar 5)) mDsNil))) mNx))
  (mSeq (mIfS (mB (m2 gEq (mVar 4) (mLst mDsNil))) (mRet (mC .none)) mNx)
  (mDrop (mMt "list" 2 gApp (mDsCons (mF (m2 gIx (mVar 4) (mC (.int 0)))) mDsNil)))))))
  (mRet (mCallN gTuple (mACons (mVar 2) mANil)))))
def fm__law_first : ME := mFn 2 8 ms__law_first
def ms_ahead_of : MS := (mRet (mDc (mSeqI (m2 gIx (mVar 0) (mC (.int 0)))) (gN 2) mYes (mF (mVar 2)) (mF (mCallN gTuple (mACons (mLc (mSeqI (mVar 1)) (gTup' 2 (gCons' (gN 3) (gCons' (gN 4) gNil'))) (mB (m2 gEq (mVar 4) (mVar 2))) (mF (mVar 3)) [3, 4]) mANil))) [2]))
def fm_ahead_of : ME := mFn 2 5 ms_ahead_of
def ms_first_order : MS := (mSeq (mSet 2 (mCall fm_ahead_of (mACons (mVar 0) (mACons (mVar 1) mANil))))
  (mSeq (mSet 3 (mCallN gList (mACons (m2 gIx (mVar 0) (mC (.int 0))) mANil)))
  (mSeq (mSet 4 (mLst mDsNil))
  (mSeq (mWhile (mB (m2 gNe (mVar 3) (mLst mDsNil))) (mSeq (mSet 5 (mLcO 3 (gN 6) (mB (mCallN gAll (mACons (mLc (mSeqI (m2 gIx (mVar 2) (mVar 6))) (gN 7) mYes (mF (m2 gIn (mVar 7) (mVar 4))) [7]) mANil))) (mF (mVar 6)) [6]))
  (mSeq (mIfS (mB (m2 gEq (mVar 5) (mLst mDsNil))) (mRet (mC .none)) mNx)
  (mSeq (mDrop (mMt "list" 4 gApp (mDsCons (mF (m2 gIx (mVar 5) (mC (.int 0)))) mDsNil)))
  (mDrop (mMt "list" 3 gRem (mDsCons (mF (m2 gIx (mVar 5) (mC (.int 0)))) mDsNil)))))) 1000)
  (mRet (mCallN gTuple (mACons (mVar 4) mANil)))))))
def fm_first_order : ME := mFn 2 8 ms_first_order
def ms_first_alike : MS := (mSeq (mDrop (mCall fm_need_web (mACons (mVar 0) mANil)))
  (mSeq (mDrop (mCall fm_need_order (mACons (mVar 0) (mACons (mVar 1) mANil))))
  (mRet (mCall fm_first_order (mACons (mVar 0) (mACons (mOf (mF (mCall fm_arrows_of (mACons (mVar 0) (mACons (mVar 1) mANil))))) mANil))))))
def fm_first_alike : ME := mFn 2 2 ms_first_alike
end PK

/-! U0: what the functions over slots give, step by step. -/
namespace PL
open PySem PySem.Spec PyProof.Rows L2
variable [TheW]

/-- m gives something of which Q holds -/
def wp {α : Type} (m : Ev → Option (α × Ev)) (ρ : Ev) (Q : α → Ev → Prop) : Prop := ∃ a ρ', m ρ = some (a, ρ') ∧ Q a ρ'
def lkq (ρ : Ev) (r : RV) (K : D → Prop) : Prop := ∃ d, look ρ r = some d ∧ K d
def fz1 (ρ : Ev) (r : RV) (K : D → Ev → Prop) : Prop := ∃ d ρ', frz ρ r = some (d, ρ') ∧ K d ρ'
def op1 (g : D → Option RV) (d : D) (K : RV → Prop) : Prop := ∃ z, g d = some z ∧ K z
def op2 (g : D → D → Option RV) (d e : D) (K : RV → Prop) : Prop := ∃ z, g d e = some z ∧ K z
def opn (g : List D → Option RV) (ds : List D) (K : RV → Prop) : Prop := ∃ z, g ds = some z ∧ K z
def lks (ρ : Ev) (rs : List RV) (K : List D → Prop) : Prop := ∃ ds, looks ρ rs = some ds ∧ K ds
def rng1 (ds : List D) (K : List D → Prop) : Prop := ∃ is, rangeOf1 ds = some is ∧ K is
def rng2 (ds : List D) (K : List D → Prop) : Prop := ∃ is, rangeOf2 ds = some is ∧ K is
def mtk (i : Nat) (g : OC → List D → Option (OC × D)) (ds : List D) (ρ : Ev) (K : D → Ev → Prop) : Prop := ∃ o o' z, ocOf ρ[i]? = some o ∧ g o ds = some (o', z) ∧ K z (setOc ρ i o')
def sl1 (d : D) (l u : Option Int) (K : RV → Prop) : Prop := ∃ z, gSl d l u = some z ∧ K z
def mq1 (g : D → List D → Option RV) (d : D) (ds : List D) (K : RV → Prop) : Prop := ∃ z, g d ds = some z ∧ K z
def sq1 (d : D) (K : List D → Prop) : Prop := ∃ ds, seqD d = some ds ∧ K ds
def tg1 (g : MG) (d : D) (ρ : Ev) (K : Ev → Prop) : Prop := ∃ ρ2, g d ρ = some ρ2 ∧ K ρ2
def put1 (i : Nat) (d x : D) (ρ : Ev) (K : Ev → Prop) : Prop := ∃ o o', ocOf ρ[i]? = some o ∧ putQ d x o = some o' ∧ K (setOc ρ i o')
section
variable {α : Type} {ρ ρ' : Ev} {Q Q' : α → Ev → Prop} {m : Ev → Option (α × Ev)}
theorem wp.mono (h : wp m ρ Q) (k : ∀ a ρ', Q a ρ' → Q' a ρ') : wp m ρ Q' := let ⟨a, ρ', e, q⟩ := h; ⟨a, ρ', e, k a ρ' q⟩
theorem wp_of {a : α} (e : m ρ = some (a, ρ')) (q : Q a ρ') : wp m ρ Q := ⟨a, ρ', e, q⟩
end
section
variable {ρ : Ev} {i : Nat} {d : D} {xs : List D} {o : OC} {K : D → Prop} {K2 : D → Ev → Prop}
theorem lk_d (k : K d) : lkq ρ (.d d) K := ⟨d, rfl, k⟩
theorem lk_nlL (k : K (.list xs)) : lkq ρ (.nl (.L xs)) K := ⟨_, rfl, k⟩
theorem lk_ownL (h : ρ[i]? = some (.own (.L xs))) (k : K (.list xs)) : lkq ρ (.al i) K := ⟨.list xs, by simp only [look, h]; rfl, k⟩
theorem lk_brwL (h : ρ[i]? = some (.brw (.L xs))) (k : K (.list xs)) : lkq ρ (.al i) K := ⟨.list xs, by simp only [look, h]; rfl, k⟩
theorem fz_d' (k : K2 d ρ) : fz1 ρ (.d d) K2 := ⟨d, ρ, rfl, k⟩
theorem fz_nlL' (k : K2 (.list xs) ρ) : fz1 ρ (.nl (.L xs)) K2 := ⟨_, ρ, rfl, k⟩
theorem fz_nlM' {kvs : List (D × D)} (k : K2 (.dict kvs) ρ) : fz1 ρ (.nl (.M kvs)) K2 := ⟨_, ρ, rfl, k⟩
theorem fz_ownL' (h : ρ[i]? = some (.own (.L xs))) (k : K2 (.list xs) (ρ.set i (.v (.list xs)))) : fz1 ρ (.al i) K2 := ⟨.list xs, _, by simp only [frz, h]; rfl, k⟩
end
section
variable {ρ : Ev} {Q : RV → Ev → Prop} {ma mb mc : ME} {mt mu : MT} {QT : Bool → Ev → Prop} {g g' : D → D → Option RV} {g1 : D → Option RV} {gn : List D → Option RV} {ms : MDs} {mas : MA} {QD : D → Ev → Prop} {QL : List D → Ev → Prop} {QA : List RV → Ev → Prop}
theorem w_var {i : Nat} {d : D} (h : ρ[i]? = some (.v d)) (q : Q (.d d) ρ) : wp (mVar i) ρ Q := ⟨_, _, by unfold mVar; rw [h], q⟩
theorem w_varO {i : Nat} {o : OC} (h : ρ[i]? = some (.own o)) (q : Q (.al i) ρ) : wp (mVar i) ρ Q := ⟨_, _, by unfold mVar; rw [h], q⟩
theorem w_varB {i : Nat} {o : OC} (h : ρ[i]? = some (.brw o)) (q : Q (.al i) ρ) : wp (mVar i) ρ Q := ⟨_, _, by unfold mVar; rw [h], q⟩
theorem w_c {d : D} (q : Q (.d d) ρ) : wp (mC d) ρ Q := ⟨_, _, rfl, q⟩
theorem w_m2 (h : wp ma ρ fun r1 ρ1 => wp mb ρ1 fun r2 ρ2 => lkq ρ2 r1 fun d => lkq ρ2 r2 fun e => op2 g d e fun z => Q z ρ2) : wp (m2 g ma mb) ρ Q := by
  obtain ⟨r1, ρ1, e1, r2, ρ2, e2, d, e3, e, e4, z, e5, q⟩ := h
  refine ⟨z, ρ2, ?_, q⟩
  unfold m2
  simp [e1, e2, e3, e4, e5]
theorem w_m1 (h : wp ma ρ fun r1 ρ1 => lkq ρ1 r1 fun d => op1 g1 d fun z => Q z ρ1) : wp (m1 g1 ma) ρ Q := by
  obtain ⟨r1, ρ1, e1, d, e3, z, e5, q⟩ := h
  refine ⟨z, ρ1, ?_, q⟩
  unfold m1
  simp [e1, e3, e5]
theorem w_callN (h : wp mas ρ fun rs ρ1 => lks ρ1 rs fun ds => opn gn ds fun z => Q z ρ1) : wp (mCallN gn mas) ρ Q := by
  obtain ⟨rs, ρ1, e1, ds, e3, z, e5, q⟩ := h
  refine ⟨z, ρ1, ?_, q⟩
  unfold mCallN
  simp [e1, e3, e5]
theorem w_anil (q : QA [] ρ) : wp mANil ρ QA := ⟨_, _, rfl, q⟩
theorem w_acons (h : wp ma ρ fun r ρ1 => wp mas ρ1 fun rs ρ2 => QA (r :: rs) ρ2) : wp (mACons ma mas) ρ QA := by
  obtain ⟨r, ρ1, e1, rs, ρ2, e2, q⟩ := h
  refine ⟨_, ρ2, ?_, q⟩
  unfold mACons
  simp [e1, e2]
theorem w_F (h : wp ma ρ fun r ρ1 => fz1 ρ1 r QD) : wp (mF ma) ρ QD := by
  obtain ⟨r, ρ1, e1, d, ρ2, e2, q⟩ := h
  refine ⟨d, ρ2, ?_, q⟩
  unfold mF
  simp [e1, e2]
theorem w_dnil (q : QL [] ρ) : wp mDsNil ρ QL := ⟨_, _, rfl, q⟩
theorem w_dcons {md : MD} (h : wp md ρ fun d ρ1 => wp ms ρ1 fun ds ρ2 => QL (d :: ds) ρ2) : wp (mDsCons md ms) ρ QL := by
  obtain ⟨d, ρ1, e1, ds, ρ2, e2, q⟩ := h
  refine ⟨_, ρ2, ?_, q⟩
  unfold mDsCons
  simp [e1, e2]
theorem w_B (h : wp ma ρ fun r ρ1 => lkq ρ1 r fun d => ∃ b, d = .bool b ∧ QT b ρ1) : wp (mB ma) ρ QT := by
  obtain ⟨r, ρ1, e1, d, e2, b, rfl, q⟩ := h
  refine ⟨b, ρ1, ?_, q⟩
  unfold mB
  simp [e1, e2]
theorem w_chain (h : wp ma ρ fun r1 ρ1 => wp mb ρ1 fun r2 ρ2 => lkq ρ2 r1 fun d => lkq ρ2 r2 fun e => ∃ b, g d e = some (.d (.bool b)) ∧ if b = true then wp mc ρ2 (fun r3 ρ3 => lkq ρ3 r2 fun e' => lkq ρ3 r3 fun f => op2 g' e' f fun z => Q z ρ3) else Q (.d (.bool false)) ρ2) : wp (mChain g g' ma mb mc) ρ Q := by
  obtain ⟨r1, ρ1, e1, r2, ρ2, e2, d, e3, e, e4, b, e5, q⟩ := h
  cases b with
  | false =>
    refine ⟨.d (.bool false), ρ2, ?_, by simpa using q⟩
    unfold mChain
    simp [e1, e2, e3, e4, e5]
  | true =>
    obtain ⟨r3, ρ3, e6, e', e7, f, e8, z, e9, q⟩ := (if_pos rfl).mp q
    refine ⟨z, ρ3, ?_, q⟩
    unfold mChain
    simp [e1, e2, e3, e4, e5, e6, e7, e8, e9]
theorem w_And (h : wp mt ρ fun b ρ1 => if b = true then wp mu ρ1 QT else QT false ρ1) : wp (mAnd mt mu) ρ QT := by
  obtain ⟨b, ρ1, e1, q⟩ := h
  cases b with
  | false => exact ⟨false, ρ1, by unfold mAnd; simp [e1], by simpa using q⟩
  | true =>
    obtain ⟨c, ρ2, e2, q⟩ := (if_pos rfl).mp q
    exact ⟨c, ρ2, by unfold mAnd; simp [e1, e2], q⟩
theorem w_Or (h : wp mt ρ fun b ρ1 => if b = true then QT true ρ1 else wp mu ρ1 QT) : wp (mOr mt mu) ρ QT := by
  obtain ⟨b, ρ1, e1, q⟩ := h
  cases b with
  | true => exact ⟨true, ρ1, by unfold mOr; simp [e1], by simpa using q⟩
  | false =>
    obtain ⟨c, ρ2, e2, q⟩ := (if_neg Bool.false_ne_true).mp q
    exact ⟨c, ρ2, by unfold mOr; simp [e1, e2], q⟩
theorem w_Not (h : wp mt ρ fun b ρ1 => QT (!b) ρ1) : wp (mNot mt) ρ QT := by
  obtain ⟨b, ρ1, e1, q⟩ := h
  exact ⟨_, ρ1, by unfold mNot; simp [e1], q⟩
theorem w_AndV (h : wp (mB ma) ρ fun b ρ1 => if b = true then wp mb ρ1 Q else Q (.d (.bool false)) ρ1) : wp (mAndV ma mb) ρ Q := by
  obtain ⟨b, ρ1, e1, q⟩ := h
  cases b with
  | false => exact ⟨.d (.bool false), ρ1, by unfold mAndV; simp [e1], by simpa using q⟩
  | true =>
    obtain ⟨c, ρ2, e2, q⟩ := (if_pos rfl).mp q
    exact ⟨c, ρ2, by unfold mAndV; simp [e1, e2], q⟩
theorem w_OrV (h : wp (mB ma) ρ fun b ρ1 => if b = true then Q (.d (.bool true)) ρ1 else wp mb ρ1 Q) : wp (mOrV ma mb) ρ Q := by
  obtain ⟨b, ρ1, e1, q⟩ := h
  cases b with
  | true => exact ⟨.d (.bool true), ρ1, by unfold mOrV; simp [e1], by simpa using q⟩
  | false =>
    obtain ⟨c, ρ2, e2, q⟩ := (if_neg Bool.false_ne_true).mp q
    exact ⟨c, ρ2, by unfold mOrV; simp [e1, e2], q⟩
theorem w_NotV (h : wp (mB ma) ρ fun b ρ1 => Q (.d (.bool (!b))) ρ1) : wp (mNotV ma) ρ Q := by
  obtain ⟨b, ρ1, e1, q⟩ := h
  exact ⟨_, ρ1, by unfold mNotV; simp [e1], q⟩
theorem w_If (h : wp mt ρ fun b ρ1 => if b = true then wp ma ρ1 Q else wp mb ρ1 Q) : wp (mIf mt ma mb) ρ Q := by
  obtain ⟨b, ρ1, e1, q⟩ := h
  cases b with
  | true =>
    obtain ⟨c, ρ2, e2, q⟩ := (if_pos rfl).mp q
    exact ⟨c, ρ2, by unfold mIf; simp [e1, e2], q⟩
  | false =>
    obtain ⟨c, ρ2, e2, q⟩ := (if_neg Bool.false_ne_true).mp q
    exact ⟨c, ρ2, by unfold mIf; simp [e1, e2], q⟩
theorem w_tup (h : wp ms ρ fun ds ρ1 => ds.length ≤ sizeLine ∧ Q (.d (.tuple ds)) ρ1) : wp (mTup ms) ρ Q := by
  obtain ⟨ds, ρ1, e1, hz, q⟩ := h
  exact ⟨_, ρ1, by unfold mTup; simp [e1, hz], q⟩
theorem w_lst (h : wp ms ρ fun ds ρ1 => ds.length ≤ sizeLine ∧ Q (.nl (.L ds)) ρ1) : wp (mLst ms) ρ Q := by
  obtain ⟨ds, ρ1, e1, hz, q⟩ := h
  exact ⟨_, ρ1, by unfold mLst; simp [e1, hz], q⟩
theorem w_sl {ml mh : MO} (h : wp ma ρ fun r ρ1 => wp ml ρ1 fun l ρ2 => wp mh ρ2 fun u ρ3 => lkq ρ3 r fun d => sl1 d l u fun z => Q z ρ3) : wp (mSl ma ml mh) ρ Q := by
  obtain ⟨r, ρ1, e1, l, ρ2, e2, u, ρ3, e3, d, e4, z, e5, q⟩ := h
  exact ⟨z, ρ3, by unfold mSl; simp [e1, e2, e3, e4, e5], q⟩
theorem w_oN {Q : Option Int → Ev → Prop} (q : Q none ρ) : wp mONone ρ Q := ⟨_, _, rfl, q⟩
theorem w_oS {Q : Option Int → Ev → Prop} (h : wp ma ρ fun r ρ1 => lkq ρ1 r fun d => ∃ i, d = .int i ∧ Q (some i) ρ1) : wp (mOSome ma) ρ Q := by
  obtain ⟨r, ρ1, e1, d, e2, i, rfl, q⟩ := h
  exact ⟨some i, ρ1, by unfold mOSome; simp [e1, e2], q⟩
/-- a def called -/
theorem w_call {fm : ME} (h : wp mas ρ fun rs ρ1 => (alsOf rs).Nodup ∧ ∃ dvs, argDVs ρ1 rs = some dvs ∧ wp fm dvs fun r outs => (∀ i, r ≠ .al i) ∧ Q r (putBack ρ1 rs outs)) : wp (mCall fm mas) ρ Q := by
  obtain ⟨rs, ρ1, e1, nd, dvs, e2, r, outs, e3, na, q⟩ := h
  refine ⟨r, _, ?_, q⟩
  unfold mCall
  simp only [e1, Option.bind_some, nd, if_true, e2, e3]
  cases r with
  | d x => rfl
  | nl o => rfl
  | ob C fs => rfl
  | al i => exact absurd rfl (na i)
theorem w_callK {fm : ME} {n : Nat} {idx : List Nat} (h : wp mas ρ fun rs ρ1 => rs.length = n ∧ (alsOf (pick idx rs)).Nodup ∧ ∃ dvs, argDVs ρ1 (pick idx rs) = some dvs ∧ wp fm dvs fun r outs => (∀ i, r ≠ .al i) ∧ Q r (putBack ρ1 (pick idx rs) outs)) : wp (mCallK fm n idx mas) ρ Q := by
  obtain ⟨rs, ρ1, e1, hn, nd, dvs, e2, r, outs, e3, na, q⟩ := h
  refine ⟨r, _, ?_, q⟩
  unfold mCallK
  simp only [e1, Option.bind_some, hn, nd, and_self, if_true, e2, e3]
  cases r with
  | d x => rfl
  | nl o => rfl
  | ob C fs => rfl
  | al i => exact absurd rfl (na i)
/-- its body -/
theorem w_fn {np n : Nat} {ms : MS} {dvs : Ev} (hl : dvs.length = np) (hp : plainArgs dvs = true) (h : wp ms (dvs ++ List.replicate (n - np) .un) fun o ρ1 => match o with
    | .nx => Q (.d .none) (outsOf dvs ρ1)
    | .rt (.d d) => Q (.d d) (outsOf dvs ρ1)
    | .rt (.nl o) => Q (.nl o) (outsOf dvs ρ1)
    | .rt (.ob C fs) => Q (.ob C fs) (outsOf dvs ρ1)
    | .rt (.al i) => match ρ1[i]? with
      | some (.own o) => Q (.nl o) (outsOf dvs ρ1)
      | some (.v d) => Q (.d d) (outsOf dvs ρ1)
      | _ => False
    | _ => False) : wp (mFn np n ms) dvs Q := by
  obtain ⟨o, ρ1, e1, q⟩ := h
  have key : ∀ r, (mFn np n ms dvs = some (r, outsOf dvs ρ1)) → Q r (outsOf dvs ρ1) → wp (mFn np n ms) dvs Q := fun r e q => ⟨r, _, e, q⟩
  have e0 : mFn np n ms dvs = (some (o, ρ1)).bind fun p => match p.1 with
      | .nx => some (.d .none, outsOf dvs p.2)
      | .rt (.d d) => some (.d d, outsOf dvs p.2)
      | .rt (.nl o) => some (.nl o, outsOf dvs p.2)
      | .rt (.ob C fs) => some (.ob C fs, outsOf dvs p.2)
      | .rt (.al i) => match p.2[i]? with
        | some (.own o) => some (.nl o, outsOf dvs p.2)
        | some (.v d) => some (.d d, outsOf dvs p.2)
        | _ => none
      | _ => none := by
    unfold mFn
    rw [if_pos ⟨hl, hp⟩, e1] <;> rfl
  cases o with
  | nx => exact key _ e0 q
  | bk => exact q.elim
  | ct => exact q.elim
  | rt r =>
    cases r with
    | d x => exact key _ e0 q
    | nl o => exact key _ e0 q
    | ob C fs => exact key _ e0 q
    | al i =>
      dsimp only at q
      cases hc : ρ1[i]? with
      | none => rw [hc] at q; exact q.elim
      | some c =>
        rw [hc] at q
        cases c with
        | un => exact q.elim
        | brw o => exact q.elim
        | ob C fs => exact q.elim
        | own o => exact key _ (by rw [e0]; simp [hc]) q
        | v d => exact key _ (by rw [e0]; simp [hc]) q
/-- methods -/
theorem w_mt {T : String} {i : Nat} {g : OC → List D → Option (OC × D)} {o0 : OC} (h0 : ocOf ρ[i]? = some o0) (ht : isT T o0) (h : wp ms ρ fun ds ρ1 => mtk i g ds ρ1 fun z ρ2 => Q (.d z) ρ2) : wp (mMt T i g ms) ρ Q := by
  obtain ⟨ds, ρ1, e1, o, o', z, e2, e3, q⟩ := h
  refine ⟨_, _, ?_, q⟩
  unfold mMt
  simp [h0, ht, e1, e2, e3]
theorem w_mq {T : String} {g : D → List D → Option RV} (h : wp ma ρ fun r ρ1 => lkq ρ1 r fun d0 => tyN d0 = T ∧ wp mas ρ1 fun rs ρ2 => lkq ρ2 r fun d => lks ρ2 rs fun ds => mq1 g d ds fun z => Q z ρ2) : wp (mMq T g ma mas) ρ Q := by
  obtain ⟨r, ρ1, e1, d0, e2, ht, rs, ρ2, e3, d, e4, ds, e5, z, e6, q⟩ := h
  refine ⟨z, ρ2, ?_, q⟩
  unfold mMq
  simp [e1, e2, ht, e3, e4, e5, e6]
end
/-! ### statements -/
section
variable {ρ : Ev} {Q : Out → Ev → Prop} {ma : ME} {mt : MT} {a b : MS} {mas : MA} {mi : MDs}
theorem w_nx (q : Q .nx ρ) : wp mNx ρ Q := ⟨_, _, rfl, q⟩
theorem w_bk (q : Q .bk ρ) : wp mBk ρ Q := ⟨_, _, rfl, q⟩
theorem w_ct (q : Q .ct ρ) : wp mCt ρ Q := ⟨_, _, rfl, q⟩
theorem w_seq (h : wp a ρ fun o ρ1 => match o with
    | .nx => wp b ρ1 Q
    | o => Q o ρ1) : wp (mSeq a b) ρ Q := by
  obtain ⟨o, ρ1, e1, q⟩ := h
  cases o with
  | nx =>
    obtain ⟨o2, ρ2, e2, q⟩ := q
    exact ⟨o2, ρ2, by unfold mSeq; simp [e1, e2], q⟩
  | bk => exact ⟨_, ρ1, by unfold mSeq; simp [e1], q⟩
  | ct => exact ⟨_, ρ1, by unfold mSeq; simp [e1], q⟩
  | rt r => exact ⟨_, ρ1, by unfold mSeq; simp [e1], q⟩
theorem w_drop (h : wp ma ρ fun _ ρ1 => Q .nx ρ1) : wp (mDrop ma) ρ Q := by
  obtain ⟨r, ρ1, e1, q⟩ := h
  exact ⟨_, ρ1, by unfold mDrop; simp [e1], q⟩
theorem w_ret (h : wp ma ρ fun r ρ1 => Q (.rt r) ρ1) : wp (mRet ma) ρ Q := by
  obtain ⟨r, ρ1, e1, q⟩ := h
  exact ⟨_, ρ1, by unfold mRet; simp [e1], q⟩
theorem w_retN (q : Q (.rt (.d .none)) ρ) : wp mRetN ρ Q := ⟨_, _, rfl, q⟩
theorem w_ifS (h : wp mt ρ fun c ρ1 => if c = true then wp a ρ1 Q else wp b ρ1 Q) : wp (mIfS mt a b) ρ Q := by
  obtain ⟨c, ρ1, e1, q⟩ := h
  cases c with
  | true =>
    obtain ⟨o, ρ2, e2, q⟩ := (if_pos rfl).mp q
    exact ⟨o, ρ2, by unfold mIfS; simp [e1, e2], q⟩
  | false =>
    obtain ⟨o, ρ2, e2, q⟩ := (if_neg Bool.false_ne_true).mp q
    exact ⟨o, ρ2, by unfold mIfS; simp [e1, e2], q⟩
/-- name = e: what slot i gets -/
def sto (i : Nat) (r : RV) (ρ : Ev) (K : Ev → Prop) : Prop := ∃ ρ', stE i r ρ = some ρ' ∧ K ρ'
theorem w_set {i : Nat} (h : wp ma ρ fun r ρ1 => sto i r ρ1 fun ρ2 => Q .nx ρ2) : wp (mSet i ma) ρ Q := by
  obtain ⟨r, ρ1, e1, ρ2, e2, q⟩ := h
  refine ⟨.nx, ρ2, ?_, q⟩
  unfold mSet
  simp only [e1, Option.bind_some]
  unfold stE at e2
  cases r with
  | d x =>
    obtain ⟨p, f1, f2⟩ := Option.bind_eq_some_iff.mp e2
    dsimp only
    rw [f1]
    dsimp only [Option.bind_some] at f2 ⊢
    split at f2
    · rename_i hb; cases f2; rw [if_pos hb]
    · cases f2
  | al j =>
    obtain ⟨p, f1, f2⟩ := Option.bind_eq_some_iff.mp e2
    dsimp only
    rw [f1]
    dsimp only [Option.bind_some] at f2 ⊢
    split at f2
    · rename_i hb; cases f2; rw [if_pos hb]
    · cases f2
  | nl o =>
    dsimp only at e2 ⊢
    split at e2
    · rename_i hb; cases e2; rw [if_pos hb]
    · cases e2
  | ob C fs =>
    dsimp only at e2 ⊢
    split at e2
    · rename_i hb; cases e2; rw [if_pos hb]
    · cases e2
theorem sto_d {i : Nat} {d : D} {K : Ev → Prop} (h : noBrw ρ[i]? = true) (k : K (ρ.set i (.v d))) : sto i (.d d) ρ K := ⟨_, by unfold stE; simp [frz, h], k⟩
theorem sto_nl {i : Nat} {o : OC} {K : Ev → Prop} (h : noBrw ρ[i]? = true) (k : K (ρ.set i (.own o))) : sto i (.nl o) ρ K := ⟨_, by unfold stE; simp [h], k⟩
theorem sto_al {i j : Nat} {xs : List D} {K : Ev → Prop} (hj : ρ[j]? = some (.own (.L xs))) (h : noBrw (ρ.set j (.v (.list xs)))[i]? = true) (k : K ((ρ.set j (.v (.list xs))).set i (.v (.list xs)))) : sto i (.al j) ρ K :=
  ⟨_, by unfold stE; simp only [frz, hj, OC.toD, Option.bind_some, h, if_true], k⟩
theorem w_par2 {i j : Nat} (h : wp mas ρ fun rs ρ1 => ∃ r1 r2, rs = [r1, r2] ∧ alNot i r2 = true ∧ sto i r1 ρ1 fun ρ2 => sto j r2 ρ2 fun ρ3 => Q .nx ρ3) : wp (mPar2 i j mas) ρ Q := by
  obtain ⟨rs, ρ1, e1, r1, r2, rfl, na, ρ2, e2, ρ3, e3, q⟩ := h
  exact ⟨_, ρ3, by unfold mPar2; simp [e1, na, e2, e3], q⟩
theorem w_par3 {i j l : Nat} (h : wp mas ρ fun rs ρ1 => ∃ r1 r2 r3, rs = [r1, r2, r3] ∧ (alNot i r2 = true ∧ alNot i r3 = true ∧ alNot j r3 = true) ∧ sto i r1 ρ1 fun ρ2 => sto j r2 ρ2 fun ρ3 => sto l r3 ρ3 fun ρ4 => Q .nx ρ4) : wp (mPar3 i j l mas) ρ Q := by
  obtain ⟨rs, ρ1, e1, r1, r2, r3, rfl, na, ρ2, e2, ρ3, e3, ρ4, e4, q⟩ := h
  exact ⟨_, ρ4, by unfold mPar3; simp [e1, na, e2, e3, e4], q⟩
def stoAll : List Nat → List RV → Ev → (Ev → Prop) → Prop
  | [], [], ρ, K => K ρ
  | i :: is, r :: rs, ρ, K => rs.all (alNot i) = true ∧ sto i r ρ fun ρ' => stoAll is rs ρ' K
  | _, _, _, _ => False
theorem stoAll_ok : ∀ {is : List Nat} {rs : List RV} {ρ : Ev} {K : Ev → Prop}, stoAll is rs ρ K → ∃ ρ', stAll is rs ρ = some ρ' ∧ K ρ'
  | [], [], ρ, K, h => ⟨ρ, rfl, h⟩
  | i :: is, r :: rs, ρ, K, h => by
    obtain ⟨na, ρ1, e1, h2⟩ := h
    obtain ⟨ρ2, e2, k⟩ := stoAll_ok h2
    exact ⟨ρ2, by unfold stAll; simp [na, e1, e2], k⟩
  | [], _ :: _, _, _, h => h.elim
  | _ :: _, [], _, _, h => h.elim
theorem w_parN {is : List Nat} (h : wp mas ρ fun rs ρ1 => rs.length ≤ sizeLine ∧ stoAll is rs ρ1 fun ρ2 => Q .nx ρ2) : wp (mParN is mas) ρ Q := by
  obtain ⟨rs, ρ1, e1, hz, h⟩ := h
  obtain ⟨ρ2, e2, q⟩ := stoAll_ok h
  exact ⟨_, ρ2, by unfold mParN; simp [e1, hz, e2], q⟩
theorem w_put {i : Nat} {mi : ME} (h : wp (mF ma) ρ fun d ρ1 => ∃ o0, ocOf ρ1[i]? = some o0 ∧ wp mi ρ1 fun r ρ2 => lkq ρ2 r fun x => put1 i d x ρ2 fun ρ3 => Q .nx ρ3) : wp (mPut i mi ma) ρ Q := by
  obtain ⟨d, ρ1, e1, o0, h0, r, ρ2, e2, x, e3, o, o', e4, e5, q⟩ := h
  exact ⟨_, _, by unfold mPut; simp [e1, h0, e2, e3, e4, e5], q⟩
theorem w_asg {g : MG} (h : wp (mF ma) ρ fun d ρ1 => tg1 g d ρ1 fun ρ2 => Q .nx ρ2) : wp (mAsg g ma) ρ Q := by
  obtain ⟨d, ρ1, e1, ρ2, e2, q⟩ := h
  exact ⟨_, ρ2, by unfold mAsg; simp [e1, e2], q⟩
/-- a for: Inv i ρ stands ahead of the i-th item -/
theorem w_loop {g : MG} (Inv : Nat → Ev → Prop) : ∀ (items : List D) (i : Nat) (ρ : Ev), Inv i ρ →
    (∀ (j : Nat) (d : D) (ρ : Ev), items[j]? = some d → Inv (i + j) ρ → ∃ ρ1, g d ρ = some ρ1 ∧ wp b ρ1 fun o ρ2 => match o with
      | .nx => Inv (i + j + 1) ρ2
      | .ct => Inv (i + j + 1) ρ2
      | .bk => Q .nx ρ2
      | .rt r => Q (.rt r) ρ2) → (∀ ρ, Inv (i + items.length) ρ → Q .nx ρ) → wp (mLoop g b items) ρ Q := by
  intro items
  induction items with
  | nil => exact fun i ρ h _ fin => ⟨.nx, ρ, rfl, fin ρ h⟩
  | cons d ds ih =>
    intro i ρ h step fin
    obtain ⟨ρ1, e1, o, ρ2, e2, q⟩ := step 0 d ρ rfl h
    have next : Inv (i + 0 + 1) ρ2 → wp (mLoop g b ds) ρ2 Q := fun h2 => ih (i + 1) ρ2 h2 (fun j d' ρ' hj hI => by
      have := step (j + 1) d' ρ' (by simpa using hj) (by rw [show i + (j + 1) = i + 1 + j by omega]; exact hI)
      rw [show i + (j + 1) + 1 = i + 1 + j + 1 by omega] at this
      exact this) fun ρ' hI => fin ρ' (by rw [List.length_cons, show i + (ds.length + 1) = i + 1 + ds.length by omega]; exact hI)
    cases o with
    | nx =>
      obtain ⟨o3, ρ3, e3, q⟩ := next q
      exact ⟨o3, ρ3, by unfold mLoop; simp [e1, e2, e3], q⟩
    | ct =>
      obtain ⟨o3, ρ3, e3, q⟩ := next q
      exact ⟨o3, ρ3, by unfold mLoop; simp [e1, e2, e3], q⟩
    | bk => exact ⟨_, ρ2, by unfold mLoop; simp [e1, e2], q⟩
    | rt r => exact ⟨_, ρ2, by unfold mLoop; simp [e1, e2], q⟩
theorem w_for {g : MG} (h : wp mi ρ fun items ρ1 => wp (mLoop g b items) ρ1 Q) : wp (mFor mi g b) ρ Q := by
  obtain ⟨items, ρ1, e1, o, ρ2, e2, q⟩ := h
  exact ⟨o, ρ2, by unfold mFor; simp [e1, e2], q⟩
end
section
variable {ρ : Ev} {Q : List D → Ev → Prop} {ma : ME} {ms : MDs}
theorem w_seqI (h : wp (mF ma) ρ fun d ρ1 => sq1 d fun ds => Q ds ρ1) : wp (mSeqI ma) ρ Q := by
  obtain ⟨d, ρ1, e1, ds, e2, q⟩ := h
  exact ⟨ds, ρ1, by unfold mSeqI; simp [e1, e2], q⟩
theorem w_range1 (h : wp ms ρ fun ds ρ1 => rng1 ds fun is => Q is ρ1) : wp (mRange1 ms) ρ Q := by
  obtain ⟨ds, ρ1, e1, is, e2, q⟩ := h
  exact ⟨is, ρ1, by unfold mRange1; simp [e1, e2], q⟩
theorem w_range2 (h : wp ms ρ fun ds ρ1 => rng2 ds fun is => Q is ρ1) : wp (mRange2 ms) ρ Q := by
  obtain ⟨ds, ρ1, e1, is, e2, q⟩ := h
  exact ⟨is, ρ1, by unfold mRange2; simp [e1, e2], q⟩
/-- a comprehension: Inv i acc ρ ahead of the i-th item -/
theorem w_lcGo {g : MG} {t : MT} {m : MD} {vs : List Nat} (Inv : Nat → List D → Ev → Prop) {Q : List D → Ev → Prop} : ∀ (items : List D) (i : Nat) (acc : List D) (ρ : Ev), Inv i acc ρ →
    (∀ (j : Nat) (d : D) (acc : List D) (ρ : Ev), items[j]? = some d → Inv (i + j) acc ρ → ∃ ρ1, g d ρ = some ρ1 ∧ wp t ρ1 fun b ρ2 => if b = true then wp m ρ2 (fun y ρ3 => acc.length < sizeLine ∧ Inv (i + j + 1) (acc ++ [y]) (wipeE ρ3 vs)) else Inv (i + j + 1) acc (wipeE ρ2 vs)) →
    (∀ acc ρ, Inv (i + items.length) acc ρ → Q acc ρ) → ∃ acc' ρ', mLcGo g t m vs items acc ρ = some (acc', ρ') ∧ Q acc' ρ' := by
  intro items
  induction items with
  | nil => exact fun i acc ρ h _ fin => ⟨acc, ρ, rfl, fin acc ρ h⟩
  | cons d ds ih =>
    intro i acc ρ h step fin
    obtain ⟨ρ1, e1, b, ρ2, e2, q⟩ := step 0 d acc ρ rfl h
    have next : ∀ acc ρ2, Inv (i + 0 + 1) acc ρ2 → ∃ acc' ρ', mLcGo g t m vs ds acc ρ2 = some (acc', ρ') ∧ Q acc' ρ' := fun acc ρ2 h2 => ih (i + 1) acc ρ2 h2 (fun j d' acc' ρ' hj hI => by
      have := step (j + 1) d' acc' ρ' (by simpa using hj) (by rw [show i + (j + 1) = i + 1 + j by omega]; exact hI)
      rw [show i + (j + 1) + 1 = i + 1 + j + 1 by omega] at this
      exact this) fun acc' ρ' hI => fin acc' ρ' (by rw [List.length_cons, show i + (ds.length + 1) = i + 1 + ds.length by omega]; exact hI)
    cases b with
    | true =>
      obtain ⟨y, ρ3, e3, hz, q⟩ := (if_pos rfl).mp q
      obtain ⟨acc', ρ4, e4, q⟩ := next _ _ q
      exact ⟨acc', ρ4, by unfold mLcGo; simp [e1, e2, e3, hz, e4], q⟩
    | false =>
      obtain ⟨acc', ρ4, e4, q⟩ := next _ _ ((if_neg Bool.false_ne_true).mp q)
      exact ⟨acc', ρ4, by unfold mLcGo; simp [e1, e2, e4], q⟩
/-- a comprehension's items, walked -/
def lcq (g : MG) (t : MT) (m : MD) (vs : List Nat) (items : List D) (ρ : Ev) (Q : List D → Ev → Prop) : Prop := ∃ acc ρ', mLcGo g t m vs items [] ρ = some (acc, ρ') ∧ Q acc ρ'
theorem w_lc {mi : MDs} {g : MG} {t : MT} {m : MD} {vs : List Nat} {Q : RV → Ev → Prop} (h : wp mi ρ fun items ρ1 => freeE ρ1 vs = true ∧ lcq g t m vs items (wipeE ρ1 vs) fun acc ρ2 => Q (.nl (.L acc)) (unwipe ρ1 ρ2 vs)) : wp (mLc mi g t m vs) ρ Q := by
  obtain ⟨items, ρ1, e1, hf, acc, ρ2, e2, q⟩ := h
  exact ⟨_, _, by unfold mLc; simp [e1, hf, e2], q⟩
end
end PL

/-! U0b: operations on data, as steps. -/
namespace PL
open PySem PySem.Spec PyProof.Rows L2
variable [TheW]
section
variable {K : RV → Prop} {i j : Int} {xs ys : List D} {d e : D} {s t : Str}
theorem o_addI (q : K (.d (.int (i + j)))) : op2 gAdd (.int i) (.int j) K := ⟨_, rfl, q⟩
theorem o_addT (h : xs.length + ys.length ≤ sizeLine) (q : K (.d (.tuple (xs ++ ys)))) : op2 gAdd (.tuple xs) (.tuple ys) K := ⟨_, if_pos h, q⟩
theorem o_sub (q : K (.d (.int (i - j)))) : op2 PL.gSub (.int i) (.int j) K := ⟨_, rfl, q⟩
theorem o_mul (h : CMulA i j) (q : K (.d (.int (i * j)))) : op2 PL.gMul (.int i) (.int j) K := ⟨_, if_pos h, q⟩
theorem o_div (h : CDivW i j) (q : K (.d (.int (i / j)))) : op2 PL.gDiv (.int i) (.int j) K := ⟨_, if_pos h, q⟩
theorem o_mod (h : 0 < j) (q : K (.d (.int (i % j)))) : op2 PL.gMod (.int i) (.int j) K := ⟨_, if_pos h, q⟩
theorem o_pow (h : CPow i j) (q : K (.d (.int (i ^ j.toNat)))) : op2 PL.gPow (.int i) (.int j) K := ⟨_, if_pos h, q⟩
theorem o_lt (q : K (.d (.bool (decide (i < j))))) : op2 PL.gLt (.int i) (.int j) K := ⟨_, rfl, q⟩
theorem o_le (q : K (.d (.bool (decide (i ≤ j))))) : op2 PL.gLe (.int i) (.int j) K := ⟨_, rfl, q⟩
theorem o_gt (q : K (.d (.bool (decide (j < i))))) : op2 PL.gGt (.int i) (.int j) K := ⟨_, rfl, q⟩
theorem o_ge (q : K (.d (.bool (decide (j ≤ i))))) : op2 PL.gGe (.int i) (.int j) K := ⟨_, rfl, q⟩
theorem o_ixL (h : atI xs i = some d) (q : K (.d d)) : op2 gIx (.list xs) (.int i) K := ⟨.d d, by show (atI xs i).map RV.d = _; rw [h]; rfl, q⟩
theorem o_ixT (h : atI xs i = some d) (q : K (.d d)) : op2 gIx (.tuple xs) (.int i) K := ⟨.d d, by show (atI xs i).map RV.d = _; rw [h]; rfl, q⟩
theorem at_nat {α : Type} {xs : List α} {k : Nat} {x : α} (h : xs[k]? = some x) : atI xs (k : Int) = some x := by
  have hl := (List.getElem?_eq_some_iff.mp h).1
  unfold atI
  have : ixN xs.length (k : Int) = some k := by
    unfold ixN
    simp [hl]
  rw [this]
  exact h
theorem at_int {α : Type} {xs : List α} (h0 : 0 ≤ i) (h1 : i < xs.length) : ∃ x, atI xs i = some x ∧ xs[i.toNat]? = some x := by
  have hl : i.toNat < xs.length := by omega
  have e : atI xs ((i.toNat : Nat) : Int) = some xs[i.toNat] := at_nat (List.getElem?_eq_getElem hl)
  rw [show ((i.toNat : Nat) : Int) = i by omega] at e
  exact ⟨xs[i.toNat], e, List.getElem?_eq_getElem hl⟩
end
section
variable {K : RV → Prop} {i j : Int} {xs : List D} {b : Bool} {s : Str}
theorem n_lenL (q : K (.d (.int xs.length))) : opn gLen [.list xs] K := ⟨_, rfl, q⟩
theorem n_lenT (q : K (.d (.int xs.length))) : opn gLen [.tuple xs] K := ⟨_, rfl, q⟩
theorem n_lenS (h : s.length ≤ sizeLine) (q : K (.d (.int s.length))) : opn gLen [.str s] K := ⟨_, if_pos h, q⟩
theorem n_intI (q : K (.d (.int i))) : opn gInt [.int i] K := ⟨_, rfl, q⟩
theorem n_intB (q : K (.d (.int (if b then 1 else 0)))) : opn gInt [.bool b] K := ⟨_, rfl, q⟩
theorem n_max2 (q : K (.d (.int (max i j)))) : opn gMax2 [.int i, .int j] K := ⟨_, rfl, by
  have : (if j > i then j else i) = max i j := by
    split <;> omega
  rw [this]
  exact q⟩
theorem n_min2 (q : K (.d (.int (min i j)))) : opn gMin2 [.int i, .int j] K := ⟨_, rfl, by
  have : (if j < i then j else i) = min i j := by
    split <;> omega
  rw [this]
  exact q⟩
theorem n_tupL (q : K (.d (.tuple xs))) : opn gTuple [.list xs] K := ⟨_, rfl, q⟩
theorem n_tupT (q : K (.d (.tuple xs))) : opn gTuple [.tuple xs] K := ⟨_, rfl, q⟩
theorem n_lstL (q : K (.nl (.L xs))) : opn gList [.list xs] K := ⟨_, rfl, q⟩
theorem n_lstT (q : K (.nl (.L xs))) : opn gList [.tuple xs] K := ⟨_, rfl, q⟩
theorem n_sum {ns : List Int} (q : K (.d (.int ns.sum))) : opn gSum [.list (ns.map .int)] K := ⟨.d (.int ns.sum), by show (intsOf (ns.map PyData.int)).map _ = _; rw [intsOf_map]; rfl, q⟩
end
section
variable {ρ : Ev} {rs : List RV} {r : RV} {K : List D → Prop}
theorem l_nil (q : K []) : lks ρ [] K := ⟨_, rfl, q⟩
theorem l_cons (h : lkq ρ r fun d => lks ρ rs fun ds => K (d :: ds)) : lks ρ (r :: rs) K := by
  obtain ⟨d, e1, ds, e2, q⟩ := h
  exact ⟨d :: ds, by show (look ρ r).bind (fun d => (looks ρ rs).map (d :: ·)) = _; rw [e1, Option.bind_some, e2]; rfl, q⟩
end
theorem r1_of {n : Int} {K : List D → Prop} (h : -(2 ^ 62) ≤ n ∧ n < 2 ^ 62) (q : K (rangeD 0 n.toNat)) : rng1 [.int n] K := ⟨_, if_pos h, q⟩
theorem r2_of {m n : Int} {K : List D → Prop} (h : -(2 ^ 62) ≤ m ∧ m < 2 ^ 62 ∧ -(2 ^ 62) ≤ n ∧ n < 2 ^ 62) (q : K (rangeD m (n - m).toNat)) : rng2 [.int m, .int n] K := ⟨_, if_pos h, q⟩
theorem sq_L {ds : List D} {K : List D → Prop} (q : K ds) : sq1 (.list ds) K := ⟨ds, rfl, q⟩
theorem sq_T {ds : List D} {K : List D → Prop} (q : K ds) : sq1 (.tuple ds) K := ⟨ds, rfl, q⟩
theorem sq_S {z : Str} {K : List D → Prop} (q : K (signsD z)) : sq1 (.str z) K := ⟨_, rfl, q⟩
theorem mt_app {i : Nat} {xs : List D} {y : D} {ρ : Ev} {K : D → Ev → Prop} (h : ocOf ρ[i]? = some (.L xs)) (hz : xs.length < sizeLine) (q : K .none (setOc ρ i (.L (xs ++ [y])))) : mtk i gApp [y] ρ K := ⟨_, _, _, h, if_pos hz, q⟩
theorem mt_popAt' {i : Nat} {xs : List D} {j : Int} {y : D} {ρ : Ev} {K : D → Ev → Prop} (h : ocOf ρ[i]? = some (.L xs)) (h0 : 0 ≤ j) (h1 : j < xs.length) (hz : xs.length < 2 ^ 63) (e : xs[j.toNat]? = some y) (q : K y (setOc ρ i (.L (xs.eraseIdx j.toNat)))) : mtk i gPopAt [.int j] ρ K := by
  refine ⟨_, .L (xs.eraseIdx j.toNat), y, h, ?_, q⟩
  show (if -(2 ^ 63) ≤ j ∧ j < 2 ^ 63 then (seqIndex? j xs.length).bind fun k => (xs[k]?).map fun y => (OC.L (xs.eraseIdx k), y) else none) = _
  rw [if_pos ⟨by omega, by omega⟩, seqIndex_of h0 h1, Option.bind_some, e]
  rfl
theorem mt_extL {i : Nat} {xs ys : List D} {ρ : Ev} {K : D → Ev → Prop} (h : ocOf ρ[i]? = some (.L xs)) (hz : xs.length + ys.length ≤ sizeLine) (q : K .none (setOc ρ i (.L (xs ++ ys)))) : mtk i gExt [.list ys] ρ K := ⟨_, _, _, h, if_pos hz, q⟩
theorem put_ok {i j : Nat} {d : D} {k : Int} {xs : List D} {ρ : Ev} {K : Ev → Prop} (h : ocOf ρ[i]? = some (.L xs)) (e : ixN xs.length k = some j) (q : K (setOc ρ i (.L (xs.set j d)))) : put1 i d (.int k) ρ K :=
  ⟨.L xs, .L (xs.set j d), h, by
    show (ixN xs.length k).map (fun j => OC.L (xs.set j d)) = _
    rw [e]
    rfl, q⟩
theorem tg_ok {g : MG} {d : D} {ρ ρ2 : Ev} {K : Ev → Prop} (h : g d ρ = some ρ2) (q : K ρ2) : tg1 g d ρ K := ⟨ρ2, h, q⟩
theorem if_t {α : Prop} {β : Prop} (h : α) : if true = true then α else β := h
theorem if_f {α : Prop} {β : Prop} (h : β) : if false = true then α else β := h
theorem if_d {p : Prop} [Decidable p] {α : Prop} {β : Prop} (h1 : p → α) (h2 : ¬ p → β) : if decide p = true then α else β := by
  by_cases h : p
  · rw [if_pos (decide_eq_true h)]; exact h1 h
  · rw [if_neg (by simp [h])]; exact h2 h
theorem log2_of {x : Int} {k : Nat} (h0 : 0 ≤ x) (h : x < 2 ^ k) (hk : 0 < k) : x.natAbs.log2 < k := by
  by_cases hz : x = 0
  · subst hz
    simpa using hk
  · have h1 : x.natAbs ≠ 0 := by omega
    refine (Nat.log2_lt h1).mpr ?_
    have : ((x.natAbs : Nat) : Int) < ((2 ^ k : Nat) : Int) := by
      rw [Int.natCast_pow]
      have : ((x.natAbs : Nat) : Int) = x := by omega
      rw [this]
      exact h
    exact Int.ofNat_lt.mp this
theorem mulW_of {x y : Int} {p q : Nat} (h0 : 0 ≤ x) (h1 : x < 2 ^ p) (g0 : 0 ≤ y) (g1 : y < 2 ^ q) (hp : 0 < p) (hq : 0 < q) (hs : p + q ≤ 1000000) : CMulA x y := by
  refine .inr ?_
  have a := log2_of h0 h1 hp
  have b := log2_of g0 g1 hq
  show x.natAbs.log2 + y.natAbs.log2 < 1000000
  omega
theorem mul_lt_pow {x y : Int} {p q : Nat} (h0 : 0 ≤ x) (h1 : x < 2 ^ p) (g0 : 0 ≤ y) (g1 : y < 2 ^ q) : 0 ≤ x * y ∧ x * y < 2 ^ (p + q) := by
  refine ⟨Int.mul_nonneg h0 g0, ?_⟩
  rw [Int.pow_add]
  have hq : (0 : Int) < 2 ^ q := Int.lt_of_le_of_lt g0 g1
  exact Int.lt_of_le_of_lt (Int.mul_le_mul_of_nonneg_left (Int.le_of_lt g1) h0) (Int.mul_lt_mul_of_pos_right h1 hq)
theorem divW_of {x y : Int} (h : 0 < y) (h2 : y < 2 ^ 62) : CDivW x y := ⟨h, Nat.lt_of_lt_of_le (log2_of (Int.le_of_lt h) h2 (by decide)) (by decide)⟩
/-! ### calls that write one list -/
theorem findAl_one {i : Nat} {rs : List RV} (h : alsOf rs = []) : ∀ j, rs.findIdx? (isAl j) = none := by
  intro j
  induction rs with
  | nil => rfl
  | cons r rs ih =>
    cases r with
    | al k => cases h
    | d x => rw [List.findIdx?_cons]; simp [isAl, ih h]
    | nl o => rw [List.findIdx?_cons]; simp [isAl, ih h]
    | ob C fs => rw [List.findIdx?_cons]; simp [isAl, ih h]
theorem back_none {ρ : Ev} {rs : List RV} {outs : Ev} (h : alsOf rs = []) : putBack ρ rs outs = ρ := by
  unfold putBack
  refine List.ext_getElem? fun j => ?_
  rw [List.getElem?_mapIdx]
  cases hc : ρ[j]? with
  | none => rfl
  | some c =>
    cases c with
    | un => rfl
    | v d => rfl
    | ob C fs => rfl
    | own o => simp [backAt, findAl_one (i := 0) h]
    | brw o => simp [backAt, findAl_one (i := 0) h]
/-- the first argument is the list of slot i -/
theorem back_first {ρ : Ev} {i : Nat} {rs : List RV} {o' : OC} {outs : Ev} {o : OC} (hi : ocOf ρ[i]? = some o) (h : alsOf rs = []) : putBack ρ (.al i :: rs) (.brw o' :: outs) = setOc ρ i o' := by
  have fi : ∀ j, (RV.al i :: rs).findIdx? (isAl j) = if i = j then some 0 else none := fun j => by
    rw [List.findIdx?_cons]
    by_cases e : i = j
    · simp [isAl, e]
    · simp [isAl, e, findAl_one (i := 0) h]
  refine List.ext_getElem? fun j => ?_
  unfold putBack
  rw [List.getElem?_mapIdx]
  by_cases e : i = j
  · subst e
    have hl : i < ρ.length := by
      unfold ocOf at hi
      split at hi
      · rename_i q hq; exact (List.getElem?_eq_some_iff.mp hq).1
      · rename_i q hq; exact (List.getElem?_eq_some_iff.mp hq).1
      · cases hi
    unfold setOc
    unfold ocOf at hi
    split at hi
    · rename_i q hq
      rw [hq]
      simp only [Option.map_some, backAt, fi, if_true, List.getElem?_cons_zero]
      rw [List.getElem?_set_self hl]
    · rename_i q hq
      rw [hq]
      simp only [Option.map_some, backAt, fi, if_true, List.getElem?_cons_zero]
      rw [List.getElem?_set_self hl]
    · cases hi
  · have same : (setOc ρ i o')[j]? = ρ[j]? := by
      unfold setOc
      split
      · exact List.getElem?_set_ne e
      · exact List.getElem?_set_ne e
      · rfl
    rw [same]
    cases hc : ρ[j]? with
    | none => rfl
    | some c =>
      cases c with
      | un => rfl
      | v d => rfl
      | ob C fs => rfl
      | own o => simp [backAt, fi, e]
      | brw o => simp [backAt, fi, e]
section
variable {ρ : Ev} {Q : RV → Ev → Prop} {fm : ME} {mas : MA} {i : Nat} {o : OC}
/-- a call that writes the list of its first argument alone -/
theorem w_call1 (h : wp mas ρ fun rs ρ1 => ∃ rs', rs = .al i :: rs' ∧ alsOf rs' = [] ∧ ∃ o, ocOf ρ1[i]? = some o ∧ ∃ dvs, argDVs ρ1 rs' = some dvs ∧ wp fm (.brw o :: dvs) fun r outs => (∀ i, r ≠ .al i) ∧ ∃ o' outs', outs = .brw o' :: outs' ∧ Q r (setOc ρ1 i o')) : wp (mCall fm mas) ρ Q := by
  refine w_call (h.mono ?_)
  rintro rs ρ1 ⟨rs', rfl, hal, o, ho, dvs, e2, hw⟩
  refine ⟨by simp [alsOf, hal], .brw o :: dvs, ?_, hw.mono ?_⟩
  · show (argDV ρ1 (.al i)).bind (fun c => (argDVs ρ1 rs').map (c :: ·)) = _
    have e1 : argDV ρ1 (.al i) = some (.brw o) := by
      unfold argDV
      unfold ocOf at ho
      split at ho
      · rename_i q hq; cases ho; simp [hq]
      · rename_i q hq; cases ho; simp [hq]
      · cases ho
    rw [e1, Option.bind_some, e2]
    rfl
  · rintro r outs ⟨na, o', outs', rfl, q⟩
    exact ⟨na, by rw [back_first ho hal]; exact q⟩
/-- .. that writes none -/
theorem w_call0 (h : wp mas ρ fun rs ρ1 => alsOf rs = [] ∧ ∃ dvs, argDVs ρ1 rs = some dvs ∧ wp fm dvs fun r _ => (∀ i, r ≠ .al i) ∧ Q r ρ1) : wp (mCall fm mas) ρ Q := by
  refine w_call (h.mono ?_)
  rintro rs ρ1 ⟨hal, dvs, e2, hw⟩
  exact ⟨by rw [hal]; exact List.nodup_nil, dvs, e2, hw.mono fun r outs ⟨na, q⟩ => ⟨na, by rw [back_none hal]; exact q⟩⟩
end
/-! ### comparing texts, whole numbers, pairs -/
section
variable {K : RV → Prop} {i j : Int} {s t : Str}
theorem str_shaped (h : PyData.strOk s = true) : SeqAt.shaped (.str s) = true := by
  show (PyData.strOk s && decide (0 ≤ 64)) = true
  rw [h]
  rfl
theorem o_eqS (q : K (.d (.bool (s == t)))) : op2 gEq (.str s) (.str t) K := ⟨.d (.bool (s == t)), if_pos (.inl ⟨rfl, rfl⟩), q⟩
theorem o_neS (q : K (.d (.bool (!(s == t))))) : op2 gNe (.str s) (.str t) K := ⟨.d (.bool (!(s == t))), if_pos (.inl ⟨rfl, rfl⟩), q⟩
theorem o_eqI (q : K (.d (.bool (i == j)))) : op2 gEq (.int i) (.int j) K := ⟨_, rfl, q⟩
theorem o_neI (q : K (.d (.bool (!(i == j))))) : op2 gNe (.int i) (.int j) K := ⟨_, rfl, q⟩
theorem o_inSS (q : K (.d (.bool (inStr s t)))) : op2 gIn (.str s) (.str t) K := ⟨_, rfl, q⟩
theorem o_notinSS (q : K (.d (.bool (!inStr s t)))) : op2 gNotIn (.str s) (.str t) K := ⟨_, rfl, q⟩
theorem o_inT {d : D} {ds : List D} (h1 : SeqAt.shaped d = true) (h2 : SeqAt.shaped (.tuple ds) = true) (q : K (.d (.bool (ds.any fun z => PyData.eqv z d)))) : op2 gIn d (.tuple ds) K := ⟨RV.d (.bool (ds.any fun z => PyData.eqv z d)), by
  have : inD d (.tuple ds) = some (ds.any fun z => PyData.eqv z d) := by cases d <;> simp only [inD, h1, h2, and_self, if_true]
  show (inD d (.tuple ds)).map _ = _
  rw [this]
  rfl, q⟩
theorem o_notinL {d : D} {ds : List D} (h1 : SeqAt.shaped d = true) (h2 : SeqAt.shaped (.list ds) = true) (q : K (.d (.bool (!ds.any fun z => PyData.eqv z d)))) : op2 gNotIn d (.list ds) K := ⟨RV.d (.bool (!ds.any fun z => PyData.eqv z d)), by
  have : inD d (.list ds) = some (ds.any fun z => PyData.eqv z d) := by cases d <;> simp only [inD, h1, h2, and_self, if_true]
  show (inD d (.list ds)).map _ = _
  rw [this]
  rfl, q⟩
theorem o_inL {d : D} {ds : List D} (h1 : SeqAt.shaped d = true) (h2 : SeqAt.shaped (.list ds) = true) (q : K (.d (.bool (ds.any fun z => PyData.eqv z d)))) : op2 gIn d (.list ds) K := ⟨RV.d (.bool (ds.any fun z => PyData.eqv z d)), by
  have : inD d (.list ds) = some (ds.any fun z => PyData.eqv z d) := by cases d <;> simp only [inD, h1, h2, and_self, if_true]
  show (inD d (.list ds)).map _ = _
  rw [this]
  rfl, q⟩
theorem o_notinT {d : D} {ds : List D} (h1 : SeqAt.shaped d = true) (h2 : SeqAt.shaped (.tuple ds) = true) (q : K (.d (.bool (!ds.any fun z => PyData.eqv z d)))) : op2 gNotIn d (.tuple ds) K := ⟨RV.d (.bool (!ds.any fun z => PyData.eqv z d)), by
  have : inD d (.tuple ds) = some (ds.any fun z => PyData.eqv z d) := by cases d <;> simp only [inD, h1, h2, and_self, if_true]
  show (inD d (.tuple ds)).map _ = _
  rw [this]
  rfl, q⟩
end
/-- pairs of whole numbers as data -/
def pD (p : Int × Int) : D := .tuple [.int p.1, .int p.2]
theorem pD_eqv (p q : Int × Int) : PyData.eqv (pD p) (pD q) = decide (p = q) := by
  obtain ⟨a, b⟩ := p
  obtain ⟨c, d⟩ := q
  show (a == c && (b == d && true)) = _
  by_cases h1 : a = c
  · by_cases h2 : b = d
    · subst h1; subst h2; simp
    · have : (b == d) = false := beq_eq_false_iff_ne.mpr h2
      simp [this, h2]
  · have : (a == c) = false := beq_eq_false_iff_ne.mpr h1
    simp [this, h1]
theorem any_pD (ps : List (Int × Int)) (q : Int × Int) : ((ps.map pD).any fun z => PyData.eqv z (pD q)) = decide (q ∈ ps) := by
  induction ps with
  | nil => rfl
  | cons p ps ih =>
    rw [List.map_cons, List.any_cons, ih, pD_eqv]
    by_cases h : p = q
    · subst h; simp
    · have h' : ¬ q = p := fun e => h e.symm
      simp [h, h']
/-! ### depth -/
theorem shaped_of {d : D} (h1 : d.canLay0 = true) (h2 : d.depth ≤ 64) : SeqAt.shaped d = true := by
  show (d.canLay0 && decide (d.depth ≤ 64)) = true
  rw [h1, Bool.true_and, decide_eq_true_eq]
  exact h2
/-- each item lays and is k deep at most -/
def Flat (k : Nat) (ds : List D) : Prop := ∀ d ∈ ds, d.canLay0 = true ∧ d.depth ≤ k
theorem flat_all {k : Nat} : ∀ {ds : List D}, Flat k ds → PyData.canLayAll0 ds = true ∧ PyData.depthAll ds ≤ k
  | [], _ => ⟨by simp [PyData.canLayAll0], by simp [PyData.depthAll]⟩
  | d :: ds, h => by
    obtain ⟨h1, h2⟩ := flat_all (ds := ds) fun x hx => h x (List.mem_cons_of_mem _ hx)
    obtain ⟨h3, h4⟩ := h d List.mem_cons_self
    refine ⟨by simp [PyData.canLayAll0, h1, h3], ?_⟩
    simp only [PyData.depthAll]
    omega
theorem shaped_list {k : Nat} {ds : List D} (h : Flat k ds) (hk : k < 64) : SeqAt.shaped (.list ds) = true := by
  obtain ⟨h1, h2⟩ := flat_all h
  refine shaped_of (by simpa [PyData.canLay0] using h1) ?_
  simp only [PyData.depth]
  omega
theorem shaped_tup {k : Nat} {ds : List D} (h : Flat k ds) (hk : k < 64) : SeqAt.shaped (.tuple ds) = true := by
  obtain ⟨h1, h2⟩ := flat_all h
  refine shaped_of (by simpa [PyData.canLay0] using h1) ?_
  simp only [PyData.depth]
  omega
theorem flat_pD (ps : List (Int × Int)) : Flat 1 (ps.map pD) := fun d hd => by
  obtain ⟨p, _, rfl⟩ := List.mem_map.mp hd
  exact ⟨by simp [pD, PyData.canLay0, PyData.canLayAll0], by simp [pD, PyData.depth, PyData.depthAll]⟩
theorem flat_str {zs : List Str} (h : ∀ z ∈ zs, PyData.strOk z = true) : Flat 0 (zs.map .str) := fun d hd => by
  obtain ⟨p, hp, rfl⟩ := List.mem_map.mp hd
  exact ⟨by simp [PyData.canLay0, h p hp], by simp [PyData.depth]⟩
/-! ### a call that writes the first list, and looks at another -/
theorem back_two {ρ : Ev} {i j : Nat} {rs : List RV} {o' oj : OC} {outs : Ev} {o : OC} (hi : ocOf ρ[i]? = some o) (hj : ocOf ρ[j]? = some oj) (hij : i ≠ j) (h : alsOf rs = []) : putBack ρ (.al i :: .al j :: rs) (.brw o' :: .brw oj :: outs) = setOc ρ i o' := by
  have fi : ∀ k, (RV.al i :: RV.al j :: rs).findIdx? (isAl k) = if i = k then some 0 else if j = k then some 1 else none := fun k => by
    rw [List.findIdx?_cons, List.findIdx?_cons]
    by_cases e : i = k
    · simp [isAl, e]
    · by_cases e2 : j = k
      · simp [isAl, e, e2]
      · simp [isAl, e, e2, findAl_one (i := 0) h]
  rw [← back_first (outs := outs) (rs := rs) hi h]
  have f1 : ∀ k, (RV.al i :: rs).findIdx? (isAl k) = if i = k then some 0 else none := fun k => by
    rw [List.findIdx?_cons]
    by_cases e : i = k
    · simp [isAl, e]
    · simp [isAl, e, findAl_one (i := 0) h]
  unfold putBack
  refine List.ext_getElem? fun k => ?_
  rw [List.getElem?_mapIdx, List.getElem?_mapIdx]
  cases hc : ρ[k]? with
  | none => rfl
  | some c =>
    have same : backAt (.al i :: .al j :: rs) (.brw o' :: .brw oj :: outs) k c = backAt (.al i :: rs) (.brw o' :: outs) k c := by
      cases c with
      | un => rfl
      | v d => rfl
      | ob C fs => rfl
      | own q =>
        simp only [backAt, fi, f1]
        by_cases e : i = k
        · simp [e]
        · by_cases e2 : j = k
          · subst e2
            rw [hc] at hj
            cases hj
            simp [e]
          · simp [e, e2]
      | brw q =>
        simp only [backAt, fi, f1]
        by_cases e : i = k
        · simp [e]
        · by_cases e2 : j = k
          · subst e2
            rw [hc] at hj
            cases hj
            simp [e]
          · simp [e, e2]
    simp [same]
theorem w_call2 {ρ : Ev} {Q : RV → Ev → Prop} {fm : ME} {mas : MA} {i j : Nat} (hij : i ≠ j) (h : wp mas ρ fun rs ρ1 => ∃ rs', rs = .al i :: .al j :: rs' ∧ alsOf rs' = [] ∧ ∃ o, ocOf ρ1[i]? = some o ∧ ∃ oj, ocOf ρ1[j]? = some oj ∧ ∃ dvs, argDVs ρ1 rs' = some dvs ∧
    wp fm (.brw o :: .brw oj :: dvs) fun r outs => (∀ i, r ≠ .al i) ∧ ∃ o' outs', outs = .brw o' :: .brw oj :: outs' ∧ Q r (setOc ρ1 i o')) : wp (mCall fm mas) ρ Q := by
  have arg : ∀ {ρ1 : Ev} {k : Nat} {q : OC}, ocOf ρ1[k]? = some q → argDV ρ1 (.al k) = some (.brw q) := fun {ρ1 k q} ho => by
    unfold argDV
    unfold ocOf at ho
    split at ho
    · rename_i q hq; cases ho; simp [hq]
    · rename_i q hq; cases ho; simp [hq]
    · cases ho
  refine w_call (h.mono ?_)
  rintro rs ρ1 ⟨rs', rfl, hal, o, ho, oj, hoj, dvs, e2, hw⟩
  refine ⟨by simp [alsOf, hal, hij], .brw o :: .brw oj :: dvs, ?_, hw.mono ?_⟩
  · show (argDV ρ1 (.al i)).bind (fun c => ((argDV ρ1 (.al j)).bind fun c2 => (argDVs ρ1 rs').map (c2 :: ·)).map (c :: ·)) = _
    rw [arg ho, Option.bind_some, arg hoj, Option.bind_some, e2]
    rfl
  · rintro r outs ⟨na, o', outs', rfl, q⟩
    exact ⟨na, by rw [back_two ho hoj hij hal]; exact q⟩
end PL

/-! V0: the second step table: the slots are kept written out. -/
namespace PL
open PySem PySem.Spec PyProof.Rows L2
variable [TheW]

/-- a slot that holds nothing or data -/
def fr : DV → Bool
  | .un => true
  | .v _ => true
  | _ => false
theorem fr_nb {x : DV} (h : fr x = true) : noBrw (some x) = true := by
  cases x with
  | brw o => cases h
  | _ => rfl
section
variable {ρ ρ1 ρ2 : Ev} {i j : Nat} {d : D} {o : OC} {xs : List D} {K : Ev → Prop} {K2 : D → Ev → Prop} {KD : D → Prop}
theorem v_sto_d (h : noBrw ρ[i]? = true) (e : ρ.set i (.v d) = ρ2) (k : K ρ2) : sto i (.d d) ρ K := by subst e; exact sto_d h k
theorem v_sto_ob {C : Str} {fs : List (Str × D)} (h : noBrw ρ[i]? = true) (e : ρ.set i (.ob C fs) = ρ2) (k : K ρ2) : sto i (.ob C fs) ρ K := ⟨ρ.set i (.ob C fs), by unfold stE; simp [h], by subst e; exact k⟩
theorem v_sto_nl (h : noBrw ρ[i]? = true) (e : ρ.set i (.own o) = ρ2) (k : K ρ2) : sto i (.nl o) ρ K := by subst e; exact sto_nl h k
theorem v_sto_al (hj : ρ[j]? = some (.own (.L xs))) (e1 : ρ.set j (.v (.list xs)) = ρ1) (h : noBrw ρ1[i]? = true) (e : ρ1.set i (.v (.list xs)) = ρ2) (k : K ρ2) : sto i (.al j) ρ K := by
  subst e1; subst e; exact sto_al hj h k
theorem v_fz_ownL (h : ρ[i]? = some (.own (.L xs))) (e : ρ.set i (.v (.list xs)) = ρ2) (k : K2 (.list xs) ρ2) : fz1 ρ (.al i) K2 := ⟨.list xs, _, by simp only [frz, h]; rfl, by subst e; exact k⟩
theorem v_fz_ownM {kvs : List (D × D)} (h : ρ[i]? = some (.own (.M kvs))) (e : ρ.set i (.v (.dict kvs)) = ρ2) (k : K2 (.dict kvs) ρ2) : fz1 ρ (.al i) K2 := ⟨.dict kvs, _, by simp only [frz, h]; rfl, by subst e; exact k⟩
theorem v_lk_ownM {kvs : List (D × D)} (h : ρ[i]? = some (.own (.M kvs))) (k : KD (.dict kvs)) : lkq ρ (.al i) KD := ⟨.dict kvs, by simp only [look, h]; rfl, k⟩
theorem v_lk_brwM {kvs : List (D × D)} (h : ρ[i]? = some (.brw (.M kvs))) (k : KD (.dict kvs)) : lkq ρ (.al i) KD := ⟨.dict kvs, by simp only [look, h]; rfl, k⟩
theorem v_lk_nlM {kvs : List (D × D)} (k : KD (.dict kvs)) : lkq ρ (.nl (.M kvs)) KD := ⟨.dict kvs, rfl, k⟩
theorem sa_nil (k : K ρ) : stoAll [] [] ρ K := k
theorem sa_cons {is : List Nat} {r : RV} {rs : List RV} (h : rs.all (alNot i) = true) (k : sto i r ρ fun ρ' => stoAll is rs ρ' K) : stoAll (i :: is) (r :: rs) ρ K := ⟨h, k⟩
end
/-! ### truths, whole numbers -/
def isB (d : D) (K : Bool → Prop) : Prop := ∃ b, d = .bool b ∧ K b
def isI (d : D) (K : Int → Prop) : Prop := ∃ b, d = .int b ∧ K b
theorem isB_ok {b : Bool} {K : Bool → Prop} (k : K b) : isB (.bool b) K := ⟨b, rfl, k⟩
theorem isI_ok {b : Int} {K : Int → Prop} (k : K b) : isI (.int b) K := ⟨b, rfl, k⟩
section
variable {ρ : Ev} {ma mb mc : ME} {mas : MA} {ms mi : MDs} {Q : RV → Ev → Prop} {QT : Bool → Ev → Prop} {QO : Out → Ev → Prop}
theorem v_B (h : wp ma ρ fun r ρ1 => lkq ρ1 r fun d => isB d fun b => QT b ρ1) : wp (mB ma) ρ QT := w_B h
theorem v_oS {Q : Option Int → Ev → Prop} (h : wp ma ρ fun r ρ1 => lkq ρ1 r fun d => isI d fun i => Q (some i) ρ1) : wp (mOSome ma) ρ Q := w_oS h
theorem v_par2 {i j : Nat} (h : wp mas ρ fun rs ρ1 => stoAll [i, j] rs ρ1 fun ρ2 => QO .nx ρ2) : wp (mPar2 i j mas) ρ QO := by
  refine w_par2 (h.mono fun rs ρ1 q => ?_)
  match rs, q with
  | [r1, r2], q =>
    obtain ⟨a, ρ2, e2, b, ρ3, e3, q⟩ := q
    exact ⟨r1, r2, rfl, by simpa using a, ρ2, e2, ρ3, e3, q⟩
  | [], q => exact q.elim
  | [_], q => obtain ⟨_, _, _, q⟩ := q; exact q.elim
  | _ :: _ :: _ :: _, q => obtain ⟨_, _, _, _, _, _, q⟩ := q; exact q.elim
theorem v_par3 {i j l : Nat} (h : wp mas ρ fun rs ρ1 => stoAll [i, j, l] rs ρ1 fun ρ2 => QO .nx ρ2) : wp (mPar3 i j l mas) ρ QO := by
  refine w_par3 (h.mono fun rs ρ1 q => ?_)
  match rs, q with
  | [r1, r2, r3], q =>
    obtain ⟨a, ρ2, e2, b, ρ3, e3, c, ρ4, e4, q⟩ := q
    simp at a b
    exact ⟨r1, r2, r3, rfl, ⟨a.1, a.2, b⟩, ρ2, e2, ρ3, e3, ρ4, e4, q⟩
  | [], q => exact q.elim
  | [_], q => obtain ⟨_, _, _, q⟩ := q; exact q.elim
  | [_, _], q => obtain ⟨_, _, _, _, _, _, q⟩ := q; exact q.elim
  | _ :: _ :: _ :: _ :: _, q => obtain ⟨_, _, _, _, _, _, _, _, _, q⟩ := q; exact q.elim
theorem v_parN {is : List Nat} (h : wp mas ρ fun rs ρ1 => rs.length ≤ 1000 ∧ stoAll is rs ρ1 fun ρ2 => QO .nx ρ2) : wp (mParN is mas) ρ QO := w_parN (h.mono fun rs ρ1 ⟨a, b⟩ => ⟨by rw [sizeLine_eq]; omega, b⟩)
theorem le_ok {a b : Nat} {P : Prop} (h : Nat.ble a b = true) (k : P) : a ≤ b ∧ P := ⟨Nat.le_of_ble_eq_true h, k⟩
theorem v_tup (h : wp ms ρ fun ds ρ1 => ds.length ≤ 1000 ∧ Q (.d (.tuple ds)) ρ1) : wp (mTup ms) ρ Q := w_tup (h.mono fun rs ρ1 ⟨a, b⟩ => ⟨by rw [sizeLine_eq]; omega, b⟩)
theorem v_lst (h : wp ms ρ fun ds ρ1 => ds.length ≤ 1000 ∧ Q (.nl (.L ds)) ρ1) : wp (mLst ms) ρ Q := w_lst (h.mono fun rs ρ1 ⟨a, b⟩ => ⟨by rw [sizeLine_eq]; omega, b⟩)
end
/-! ### calls -/
def nodupB : List Nat → Bool
  | [] => true
  | x :: xs => !(xs.contains x) && nodupB xs
theorem nodupB_ok : ∀ {xs : List Nat}, nodupB xs = true → xs.Nodup
  | [], _ => .nil
  | x :: xs, h => by
    have h : (!(xs.contains x) && nodupB xs) = true := h
    rw [Bool.and_eq_true] at h
    refine List.nodup_cons.mpr ⟨fun m => ?_, nodupB_ok h.2⟩
    have := h.1
    simp [m] at this
/-- what the callee wrote is laid back, argument by argument -/
def pbs : List RV → Ev → Ev → Ev
  | .al i :: rs, .brw o :: outs, ρ => pbs rs outs (setOc ρ i o)
  | _ :: rs, _ :: outs, ρ => pbs rs outs ρ
  | _, _, ρ => ρ
def argq (ρ : Ev) (rs : List RV) (K : Ev → Prop) : Prop := ∃ dvs, argDVs ρ rs = some dvs ∧ K dvs
section
variable {ρ ρ2 : Ev} {rs : List RV} {i : Nat} {d : D} {o : OC} {K : Ev → Prop}
theorem aq_nil (k : K []) : argq ρ [] K := ⟨[], rfl, k⟩
theorem aq_gen {r : RV} {c : DV} (h : argDV ρ r = some c) (k : argq ρ rs fun dvs => K (c :: dvs)) : argq ρ (r :: rs) K := by
  obtain ⟨dvs, e, k⟩ := k
  refine ⟨c :: dvs, ?_, k⟩
  show (argDV ρ r).bind (fun c => (argDVs ρ rs).map (c :: ·)) = _
  rw [h, Option.bind_some, e]
  rfl
theorem aq_d (k : argq ρ rs fun dvs => K (.v d :: dvs)) : argq ρ (.d d :: rs) K := aq_gen rfl k
theorem aq_ob {C : Str} {fs : List (Str × D)} (k : argq ρ rs fun dvs => K (.ob C fs :: dvs)) : argq ρ (.ob C fs :: rs) K := aq_gen rfl k
theorem aq_nl (k : argq ρ rs fun dvs => K (.brw o :: dvs)) : argq ρ (.nl o :: rs) K := aq_gen rfl k
theorem aq_own (h : ρ[i]? = some (.own o)) (k : argq ρ rs fun dvs => K (.brw o :: dvs)) : argq ρ (.al i :: rs) K := aq_gen (by simp [argDV, h]) k
theorem aq_brw (h : ρ[i]? = some (.brw o)) (k : argq ρ rs fun dvs => K (.brw o :: dvs)) : argq ρ (.al i :: rs) K := aq_gen (by simp [argDV, h]) k
end
theorem setOc_far {ρ : Ev} {i j : Nat} {o : OC} (h : i ≠ j) : (setOc ρ i o)[j]? = ρ[j]? := by
  unfold setOc
  split
  · exact List.getElem?_set_ne h
  · exact List.getElem?_set_ne h
  · rfl
theorem pbs_get : ∀ (rs : List RV) (outs ρ : Ev) (j : Nat), j ∉ alsOf rs → (pbs rs outs ρ)[j]? = ρ[j]?
  | [], outs, ρ, j, _ => by cases outs <;> rfl
  | .d _ :: rs, [], ρ, j, _ => rfl
  | .nl _ :: rs, [], ρ, j, _ => rfl
  | .al _ :: rs, [], ρ, j, _ => rfl
  | .ob _ _ :: rs, [], ρ, j, _ => rfl
  | .d x :: rs, c :: outs, ρ, j, h => pbs_get rs outs ρ j (by simpa [alsOf] using h)
  | .nl x :: rs, c :: outs, ρ, j, h => pbs_get rs outs ρ j (by simpa [alsOf] using h)
  | .ob _ _ :: rs, c :: outs, ρ, j, h => pbs_get rs outs ρ j (by simpa [alsOf] using h)
  | .al i :: rs, c :: outs, ρ, j, h => by
    have h : j ≠ i ∧ j ∉ alsOf rs := by simpa [alsOf] using h
    cases c with
    | brw o =>
      show (pbs rs outs (setOc ρ i o))[j]? = _
      rw [pbs_get rs outs _ j h.2, setOc_far (Ne.symm h.1)]
    | un => exact pbs_get rs outs ρ j h.2
    | v d => exact pbs_get rs outs ρ j h.2
    | ob _ _ => exact pbs_get rs outs ρ j h.2
    | own o => exact pbs_get rs outs ρ j h.2
theorem back_pbs : ∀ (rs : List RV) (outs ρ : Ev) (j : Nat), (alsOf rs).Nodup → (pbs rs outs ρ)[j]? = (ρ[j]?).map fun c => backAt rs outs j c
  | [], outs, ρ, j, _ => by
    have : pbs [] outs ρ = ρ := by cases outs <;> rfl
    rw [this]
    cases h : ρ[j]? with
    | none => rfl
    | some c => cases c <;> rfl
  | r :: rs, [], ρ, j, _ => by
    have : pbs (r :: rs) [] ρ = ρ := by cases r <;> rfl
    rw [this]
    cases h : ρ[j]? with
    | none => rfl
    | some c => cases c <;> simp [backAt] <;> split <;> rfl
  | r :: rs, c :: outs, ρ, j, nd => by
    have skip : (∀ k, r ≠ .al k) ∨ (∀ o, c ≠ .brw o) → (alsOf rs).Nodup → pbs (r :: rs) (c :: outs) ρ = pbs rs outs ρ := fun h _ => by
      cases r with
      | d x => rfl
      | nl x => rfl
      | ob _ _ => rfl
      | al k =>
        cases c with
        | brw o => rcases h with h | h; exact absurd rfl (h k); exact absurd rfl (h o)
        | _ => rfl
    cases r with
    | d x =>
      rw [show pbs (.d x :: rs) (c :: outs) ρ = pbs rs outs ρ from rfl, back_pbs rs outs ρ j nd]
      cases h : ρ[j]? with
      | none => rfl
      | some c' => cases c' <;> simp [backAt, List.findIdx?_cons, isAl] <;> cases rs.findIdx? (isAl j) <;> simp
    | nl x =>
      rw [show pbs (.nl x :: rs) (c :: outs) ρ = pbs rs outs ρ from rfl, back_pbs rs outs ρ j nd]
      cases h : ρ[j]? with
      | none => rfl
      | some c' => cases c' <;> simp [backAt, List.findIdx?_cons, isAl] <;> cases rs.findIdx? (isAl j) <;> simp
    | ob C fs =>
      rw [show pbs (.ob C fs :: rs) (c :: outs) ρ = pbs rs outs ρ from rfl, back_pbs rs outs ρ j nd]
      cases h : ρ[j]? with
      | none => rfl
      | some c' => cases c' <;> simp [backAt, List.findIdx?_cons, isAl] <;> cases rs.findIdx? (isAl j) <;> simp
    | al k =>
      have nd : k ∉ alsOf rs ∧ (alsOf rs).Nodup := by simpa [alsOf] using nd
      by_cases e : j = k
      · subst e
        cases c with
        | brw o =>
          show (pbs rs outs (setOc ρ j o))[j]? = _
          rw [pbs_get rs outs _ j nd.1]
          unfold setOc
          cases h : ρ[j]? with
          | none => simp [h]
          | some c' =>
            obtain ⟨hl, hg⟩ := List.getElem?_eq_some_iff.mp h
            cases c' <;> simp [h, hl, hg, backAt, List.findIdx?_cons, isAl]
        | _ =>
          show (pbs rs outs ρ)[j]? = _
          rw [pbs_get rs outs _ j nd.1]
          cases h : ρ[j]? with
          | none => rfl
          | some c' => cases c' <;> simp [backAt, List.findIdx?_cons, isAl]
      · have e' : ¬ k = j := fun x => e x.symm
        have key : ∀ ρ' : Ev, ρ'[j]? = ρ[j]? → (pbs rs outs ρ')[j]? = (ρ[j]?).map fun c' => backAt (.al k :: rs) (c :: outs) j c' := fun ρ' he => by
          rw [back_pbs rs outs ρ' j nd.2, he]
          cases h : ρ[j]? with
          | none => rfl
          | some c' => cases c' <;> simp [backAt, List.findIdx?_cons, isAl, e'] <;> cases rs.findIdx? (isAl j) <;> simp
        cases c with
        | brw o => exact key (setOc ρ k o) (setOc_far e')
        | _ => exact key ρ rfl
theorem putBack_pbs {rs : List RV} {outs ρ : Ev} (nd : (alsOf rs).Nodup) : putBack ρ rs outs = pbs rs outs ρ := by
  refine List.ext_getElem? fun j => ?_
  rw [back_pbs rs outs ρ j nd]
  unfold putBack
  rw [List.getElem?_mapIdx]
def ret1 (rs : List RV) (ρ1 : Ev) (r : RV) (outs : Ev) (K : RV → Ev → Prop) : Prop := (∀ i, r ≠ .al i) ∧ K r (pbs rs outs ρ1)
section
variable {ρ ρ1 ρ2 outs : Ev} {rs : List RV} {d : D} {o : OC} {K : RV → Ev → Prop} {fm : ME} {mas : MA}
theorem ret_d (e : pbs rs outs ρ1 = ρ2) (k : K (.d d) ρ2) : ret1 rs ρ1 (.d d) outs K := ⟨nofun, by rw [e]; exact k⟩
theorem ret_ob {C : Str} {fs : List (Str × D)} (e : pbs rs outs ρ1 = ρ2) (k : K (.ob C fs) ρ2) : ret1 rs ρ1 (.ob C fs) outs K := ⟨nofun, by rw [e]; exact k⟩
theorem ret_nl (e : pbs rs outs ρ1 = ρ2) (k : K (.nl o) ρ2) : ret1 rs ρ1 (.nl o) outs K := ⟨nofun, by rw [e]; exact k⟩
def callq (fm : ME) (rs : List RV) (ρ1 : Ev) (K : RV → Ev → Prop) : Prop := nodupB (alsOf rs) = true ∧ argq ρ1 rs fun dvs => wp fm dvs fun r outs => ret1 rs ρ1 r outs K
theorem callq_ok (h : nodupB (alsOf rs) = true) (k : argq ρ1 rs fun dvs => wp fm dvs fun r outs => ret1 rs ρ1 r outs K) : callq fm rs ρ1 K := ⟨h, k⟩
theorem v_call (h : wp mas ρ fun rs ρ1 => callq fm rs ρ1 K) : wp (mCall fm mas) ρ K := by
  refine w_call (h.mono ?_)
  rintro rs ρ1 ⟨nd, dvs, e, k⟩
  have nd := nodupB_ok nd
  refine ⟨nd, dvs, e, k.mono ?_⟩
  rintro r outs ⟨na, k⟩
  exact ⟨na, by rw [putBack_pbs nd]; exact k⟩
theorem v_callK {n : Nat} {idx : List Nat} (h : wp mas ρ fun rs ρ1 => rs.length = n ∧ ∃ rs', pick idx rs = rs' ∧ callq fm rs' ρ1 K) : wp (mCallK fm n idx mas) ρ K := by
  refine w_callK (h.mono ?_)
  rintro rs ρ1 ⟨hn, rs', e0, nd, dvs, e, k⟩
  have nd := nodupB_ok nd
  rw [e0]
  refine ⟨hn, nd, dvs, e, k.mono ?_⟩
  rintro r outs ⟨na, k⟩
  exact ⟨na, by rw [putBack_pbs nd]; exact k⟩
end
theorem pick_ok {rs rs' : List RV} {n : Nat} {idx : List Nat} {P : List RV → Prop} (h : rs.length = n) (e : pick idx rs = rs') (k : P rs') : rs.length = n ∧ ∃ rs', pick idx rs = rs' ∧ P rs' := ⟨h, rs', e, k⟩
/-! ### the body of a def -/
def outl (ρ : Ev) : Nat → Ev → Ev
  | _, [] => []
  | j, c :: dvs => outDV ρ j c :: outl ρ (j + 1) dvs
theorem outl_get (ρ : Ev) : ∀ (dvs : Ev) (n j : Nat), (outl ρ n dvs)[j]? = (dvs[j]?).map fun c => outDV ρ (n + j) c
  | [], n, j => rfl
  | c :: dvs, n, 0 => rfl
  | c :: dvs, n, j + 1 => by
    show (outl ρ (n + 1) dvs)[j]? = _
    rw [outl_get ρ dvs (n + 1) j, show n + 1 + j = n + (j + 1) by omega]
    simp
theorem outs_outl {dvs ρ : Ev} : outsOf dvs ρ = outl ρ 0 dvs := by
  refine List.ext_getElem? fun j => ?_
  rw [outl_get]
  unfold outsOf
  rw [List.getElem?_mapIdx]
  simp only [Nat.zero_add]
/-- what a def hands on, when its body ends so -/
def retq (dvs : Ev) (Q : RV → Ev → Prop) (o : Out) (ρ1 : Ev) : Prop := match o with
  | .nx => Q (.d .none) (outl ρ1 0 dvs)
  | .rt (.d d) => Q (.d d) (outl ρ1 0 dvs)
  | .rt (.nl o) => Q (.nl o) (outl ρ1 0 dvs)
  | .rt (.ob C fs) => Q (.ob C fs) (outl ρ1 0 dvs)
  | .rt (.al i) => match ρ1[i]? with
    | some (.own o) => Q (.nl o) (outl ρ1 0 dvs)
    | some (.v d) => Q (.d d) (outl ρ1 0 dvs)
    | _ => False
  | _ => False
section
variable {dvs ρ ρ1 outs : Ev} {Q : RV → Ev → Prop} {np n : Nat} {ms : MS} {d : D} {o : OC} {i : Nat}
theorem v_fn (hl : dvs.length = np) (hp : plainArgs dvs = true) (e : dvs ++ List.replicate (n - np) .un = ρ) (h : wp ms ρ (retq dvs Q)) : wp (mFn np n ms) dvs Q := by
  subst e
  refine w_fn hl hp (h.mono fun o ρ1 q => ?_)
  rw [outs_outl]
  cases o with
  | rt r => cases r <;> exact q
  | _ => exact q
theorem rq_nx (e : outl ρ1 0 dvs = outs) (q : Q (.d .none) outs) : retq dvs Q .nx ρ1 := by subst e; exact q
theorem rq_d (e : outl ρ1 0 dvs = outs) (q : Q (.d d) outs) : retq dvs Q (.rt (.d d)) ρ1 := by subst e; exact q
theorem rq_ob {C : Str} {fs : List (Str × D)} (e : outl ρ1 0 dvs = outs) (q : Q (.ob C fs) outs) : retq dvs Q (.rt (.ob C fs)) ρ1 := by subst e; exact q
theorem rq_nl (e : outl ρ1 0 dvs = outs) (q : Q (.nl o) outs) : retq dvs Q (.rt (.nl o)) ρ1 := by subst e; exact q
theorem rq_al (h : ρ1[i]? = some (.own o)) (e : outl ρ1 0 dvs = outs) (q : Q (.nl o) outs) : retq dvs Q (.rt (.al i)) ρ1 := by
  subst e
  show match ρ1[i]? with | some (.own o) => _ | some (.v d) => _ | _ => False
  rw [h]
  exact q
end
/-! ### methods that write -/
section
variable {ρ ρ2 : Ev} {i : Nat} {xs ys : List D} {y : D} {K : D → Ev → Prop} {ms : MDs} {Q : RV → Ev → Prop} {o0 : OC}
theorem setOc_own {o o' : OC} (h : ρ[i]? = some (.own o)) : setOc ρ i o' = ρ.set i (.own o') := by unfold setOc; rw [h]
theorem setOc_brw {o o' : OC} (h : ρ[i]? = some (.brw o)) : setOc ρ i o' = ρ.set i (.brw o') := by unfold setOc; rw [h]
theorem ocOf_own {o : OC} (h : ρ[i]? = some (.own o)) : ocOf ρ[i]? = some o := by rw [h]; rfl
theorem ocOf_brw {o : OC} (h : ρ[i]? = some (.brw o)) : ocOf ρ[i]? = some o := by rw [h]; rfl
theorem v_mtL {g : OC → List D → Option (OC × D)} (h0 : ocOf ρ[i]? = some (.L xs)) (h : wp ms ρ fun ds ρ1 => mtk i g ds ρ1 fun z ρ2 => Q (.d z) ρ2) : wp (mMt "list" i g ms) ρ Q := w_mt h0 rfl h
theorem v_app (h : ρ[i]? = some (.own (.L xs))) (hz : xs.length < sizeLine) (e : ρ.set i (.own (.L (xs ++ [y]))) = ρ2) (q : K .none ρ2) : mtk i gApp [y] ρ K := mt_app (ocOf_own h) hz (by rw [setOc_own h, e]; exact q)
theorem v_appB (h : ρ[i]? = some (.brw (.L xs))) (hz : xs.length < sizeLine) (e : ρ.set i (.brw (.L (xs ++ [y]))) = ρ2) (q : K .none ρ2) : mtk i gApp [y] ρ K := mt_app (ocOf_brw h) hz (by rw [setOc_brw h, e]; exact q)
theorem v_ext (h : ρ[i]? = some (.own (.L xs))) (hz : xs.length + ys.length ≤ sizeLine) (e : ρ.set i (.own (.L (xs ++ ys))) = ρ2) (q : K .none ρ2) : mtk i gExt [.list ys] ρ K := mt_extL (ocOf_own h) hz (by rw [setOc_own h, e]; exact q)
end
/-! ### targets, loops -/
section
variable {ρ ρ1 ρ2 : Ev} {i j : Nat} {d e : D} {K : Ev → Prop}
theorem t_name (h : noBrw ρ[i]? = true) (q : ρ.set i (.v d) = ρ2) (k : K ρ2) : tg1 (gN i) d ρ K := ⟨_, if_pos h, by rw [q]; exact k⟩
theorem t_pair (h : noBrw ρ[i]? = true) (q : ρ.set i (.v d) = ρ1) (h2 : noBrw ρ1[j]? = true) (q2 : ρ1.set j (.v e) = ρ2) (k : K ρ2) : tg1 (gTup' 2 (gCons' (gN i) (gCons' (gN j) gNil'))) (.tuple [d, e]) ρ K := by
  refine ⟨ρ2, ?_, k⟩
  subst q; subst q2
  simp [gTup', gCons', gNil', gN, h, h2]
end
section
variable {ρ : Ev} {QO : Out → Ev → Prop} {b : MS} {g : MG}
def endq (Inv : Ev → Prop) (QO : Out → Ev → Prop) (o : Out) (ρ2 : Ev) : Prop := match o with
  | .nx => Inv ρ2
  | .ct => Inv ρ2
  | .bk => QO .nx ρ2
  | .rt r => QO (.rt r) ρ2
theorem en_nx {Inv : Ev → Prop} (k : Inv ρ) : endq Inv QO .nx ρ := k
theorem en_ct {Inv : Ev → Prop} (k : Inv ρ) : endq Inv QO .ct ρ := k
theorem en_bk {Inv : Ev → Prop} (k : QO .nx ρ) : endq Inv QO .bk ρ := k
theorem en_rt {Inv : Ev → Prop} {r : RV} (k : QO (.rt r) ρ) : endq Inv QO (.rt r) ρ := k
theorem v_loop (Inv : Nat → Ev → Prop) {items : List D} (start : Inv 0 ρ) (step : ∀ (j : Nat) (d : D) (ρ : Ev), items[j]? = some d → Inv j ρ → tg1 g d ρ fun ρ1 => wp b ρ1 (endq (Inv (j + 1)) QO))
    (fin : ∀ ρ, Inv items.length ρ → QO .nx ρ) : wp (mLoop g b items) ρ QO := by
  refine w_loop Inv items 0 ρ start (fun j d ρ hj hI => ?_) (fun ρ hI => fin ρ (by rw [Nat.zero_add] at hI; exact hI))
  rw [Nat.zero_add] at hI ⊢
  obtain ⟨ρ1, e1, h⟩ := step j d ρ hj hI
  refine ⟨ρ1, e1, h.mono fun o ρ2 q => ?_⟩
  cases o <;> exact q
theorem v_loopF {α : Type} {F : α → D} {xs : List α} (Inv : Nat → Ev → Prop) (start : Inv 0 ρ) (step : ∀ (j : Nat) (x : α) (ρ : Ev), xs[j]? = some x → Inv j ρ → tg1 g (F x) ρ fun ρ1 => wp b ρ1 (endq (Inv (j + 1)) QO))
    (fin : ∀ ρ, Inv xs.length ρ → QO .nx ρ) : wp (mLoop g b (xs.map F)) ρ QO := by
  refine v_loop Inv start (fun j d ρ hj hI => ?_) (fun ρ hI => fin ρ (by rw [List.length_map] at hI; exact hI))
  rw [List.getElem?_map] at hj
  obtain ⟨x, ex, rfl⟩ := Option.map_eq_some_iff.mp hj
  exact step j x ρ ex hI
end
/-! ### comprehensions -/
theorem wipe_get {ρ : Ev} {vs : List Nat} {j : Nat} (h : j ∉ vs) : (wipeE ρ vs)[j]? = ρ[j]? := by
  induction vs with
  | nil => rfl
  | cons v vs ih =>
    have h : j ≠ v ∧ j ∉ vs := by simpa using h
    show ((wipeE ρ vs).set v .un)[j]? = _
    rw [List.getElem?_set_ne (Ne.symm h.1), ih h.2]
theorem wipe_len {ρ : Ev} {vs : List Nat} : (wipeE ρ vs).length = ρ.length := by
  induction vs with
  | nil => rfl
  | cons v vs ih =>
    show ((wipeE ρ vs).set v .un).length = _
    rw [List.length_set, ih]
theorem unwipe_wipe {ρ : Ev} {vs : List Nat} : unwipe ρ (wipeE ρ vs) vs = ρ := by
  refine List.ext_getElem? fun j => ?_
  unfold unwipe
  rw [List.getElem?_mapIdx]
  by_cases hl : j < ρ.length
  · have hl2 : j < (wipeE ρ vs).length := by rw [wipe_len]; exact hl
    rw [List.getElem?_eq_getElem hl2, Option.map_some]
    by_cases h : j ∈ vs
    · rw [if_pos h, List.getElem?_eq_getElem hl]; rfl
    · rw [if_neg h, ← wipe_get (ρ := ρ) h, List.getElem?_eq_getElem hl2]
  · rw [List.getElem?_eq_none (l := wipeE ρ vs) (by rw [wipe_len]; omega), List.getElem?_eq_none (l := ρ) (by omega)]
    rfl
/-- the same, slot by slot -/
def uwl (vs : List Nat) : Nat → Ev → Ev → Ev
  | _, _, [] => []
  | j, [], y :: ρ => (bif vs.elem j then .un else y) :: uwl vs (j + 1) [] ρ
  | j, x :: ρ0, y :: ρ => (bif vs.elem j then x else y) :: uwl vs (j + 1) ρ0 ρ
theorem uwl_get (vs : List Nat) : ∀ (ρ ρ0 : Ev) (n j : Nat), (uwl vs n ρ0 ρ)[j]? = (ρ[j]?).map fun c => if n + j ∈ vs then (ρ0[j]?).getD .un else c
  | [], ρ0, n, j => by cases ρ0 <;> rfl
  | y :: ρ, [], n, 0 => by
    show some (bif vs.elem n then DV.un else y) = _
    by_cases h : n ∈ vs <;> simp [h]
  | y :: ρ, x :: ρ0, n, 0 => by
    show some (bif vs.elem n then x else y) = _
    by_cases h : n ∈ vs <;> simp [h]
  | y :: ρ, [], n, j + 1 => by
    show (uwl vs (n + 1) [] ρ)[j]? = _
    rw [uwl_get vs ρ [] (n + 1) j, show n + 1 + j = n + (j + 1) by omega]
    simp
  | y :: ρ, x :: ρ0, n, j + 1 => by
    show (uwl vs (n + 1) ρ0 ρ)[j]? = _
    rw [uwl_get vs ρ ρ0 (n + 1) j, show n + 1 + j = n + (j + 1) by omega]
    simp
theorem unwipe_uwl {ρ0 ρ : Ev} {vs : List Nat} : unwipe ρ0 ρ vs = uwl vs 0 ρ0 ρ := by
  refine List.ext_getElem? fun j => ?_
  rw [uwl_get]
  unfold unwipe
  rw [List.getElem?_mapIdx]
  simp only [Nat.zero_add]
def lcv (g : MG) (t : MT) (m : MD) (vs : List Nat) (items : List D) (ρ : Ev) (Q : RV → Ev → Prop) : Prop := ∃ acc ρ2, mLcGo g t m vs items [] (wipeE ρ vs) = some (acc, ρ2) ∧ Q (.nl (.L acc)) (unwipe ρ ρ2 vs)
section
variable {ρ W : Ev} {mi : MDs} {g : MG} {t : MT} {m : MD} {vs : List Nat} {Q : RV → Ev → Prop} {items : List D}
theorem v_lc (h : wp mi ρ fun items ρ1 => freeE ρ1 vs = true ∧ lcv g t m vs items ρ1 Q) : wp (mLc mi g t m vs) ρ Q := by
  obtain ⟨items, ρ1, e1, hf, acc, ρ2, e2, q⟩ := h
  exact w_lc ⟨items, ρ1, e1, hf, acc, ρ2, e2, q⟩
theorem free_ok {P : Prop} (h : freeE ρ vs = true) (k : P) : freeE ρ vs = true ∧ P := ⟨h, k⟩
/-- .. that draws: what stands in the slots may change -/
theorem v_cinv (hW : wipeE ρ vs = W) (Inv : Nat → List D → Ev → Prop) (start : Inv 0 [] W)
    (step : ∀ (j : Nat) (d : D) (acc : List D) (ρ : Ev), items[j]? = some d → Inv j acc ρ → tg1 g d ρ fun ρ1 => wp t ρ1 fun b ρ2 => if b = true then wp m ρ2 fun y ρ3 => acc.length < sizeLine ∧ ∃ ρ4, wipeE ρ3 vs = ρ4 ∧ Inv (j + 1) (acc ++ [y]) ρ4 else ∃ ρ4, wipeE ρ2 vs = ρ4 ∧ Inv (j + 1) acc ρ4)
    (fin : ∀ acc ρ2, Inv items.length acc ρ2 → Q (.nl (.L acc)) (uwl vs 0 ρ ρ2)) : lcv g t m vs items ρ Q := by
  subst hW
  refine w_lcGo Inv items 0 [] _ start ?_ (fun acc ρ2 h => by rw [unwipe_uwl]; exact fin acc ρ2 (by rw [Nat.zero_add] at h; exact h))
  intro j d acc ρ' hj hI
  rw [Nat.zero_add] at hI ⊢
  obtain ⟨ρ1, e1, h⟩ := step j d acc ρ' hj hI
  refine ⟨ρ1, e1, h.mono ?_⟩
  intro b ρ2 h
  cases b with
  | true =>
    refine if_t (((if_pos rfl).mp h).mono ?_)
    rintro y ρ3 ⟨hz, ρ4, rfl, h⟩
    exact ⟨hz, h⟩
  | false =>
    obtain ⟨ρ4, rfl, h⟩ := (if_neg Bool.false_ne_true).mp h
    exact if_f h
end
section
variable {ρ W : Ev} {g : MG} {t : MT} {m : MD} {vs : List Nat} {Q : RV → Ev → Prop} {α : Type} {F : α → D} {xs : List α}
theorem v_cmapF (hW : wipeE ρ vs = W) (f : α → D) (hl : xs.length ≤ 2 ^ 20) (step : ∀ (j : Nat) (x : α), xs[j]? = some x → tg1 g (F x) W fun ρ1 => wp t ρ1 fun b ρ2 => b = true ∧ wp m ρ2 fun y ρ3 => wipeE ρ3 vs = W ∧ y = f x)
    (fin : Q (.nl (.L (xs.map f))) ρ) : lcv g t m vs (xs.map F) ρ Q := by
  have key : ∃ acc ρ2, mLcGo g t m vs (xs.map F) [] W = some (acc, ρ2) ∧ (acc = xs.map f ∧ ρ2 = W) := by
    refine w_lcGo (fun j acc ρ' => acc = (xs.take j).map f ∧ ρ' = W) (xs.map F) 0 [] W ⟨rfl, rfl⟩ ?_ ?_
    · rintro j d acc ρ' hj ⟨rfl, rfl⟩
      rw [List.getElem?_map] at hj
      obtain ⟨x, hj', rfl⟩ := Option.map_eq_some_iff.mp hj
      replace hj := hj'
      obtain ⟨ρ1, e1, h⟩ := step j x hj
      refine ⟨ρ1, e1, h.mono ?_⟩
      rintro b ρ2 ⟨rfl, h⟩
      refine if_t (h.mono ?_)
      rintro y ρ3 ⟨e, rfl⟩
      rw [Nat.zero_add]
      have := (List.getElem?_eq_some_iff.mp hj).1
      refine ⟨by rw [List.length_map, List.length_take, sizeLine_eq]; omega, ?_, e⟩
      rw [List.take_succ, hj]; simp
    · rintro acc ρ' ⟨rfl, rfl⟩
      rw [Nat.zero_add, List.length_map, List.take_length]
      exact ⟨rfl, rfl⟩
  obtain ⟨acc, ρ2, e, rfl, rfl⟩ := key
  subst hW
  exact ⟨_, _, e, by rw [unwipe_wipe]; exact fin⟩
theorem v_cfiltF (hW : wipeE ρ vs = W) (p : α → Bool) (f : α → D) (hl : xs.length ≤ 2 ^ 20) (step : ∀ (j : Nat) (x : α), xs[j]? = some x → tg1 g (F x) W fun ρ1 => wp t ρ1 fun b ρ2 => b = p x ∧ (p x = true → wp m ρ2 fun y ρ3 => wipeE ρ3 vs = W ∧ y = f x) ∧ (p x = false → wipeE ρ2 vs = W))
    (fin : Q (.nl (.L ((xs.filter p).map f))) ρ) : lcv g t m vs (xs.map F) ρ Q := by
  have key : ∃ acc ρ2, mLcGo g t m vs (xs.map F) [] W = some (acc, ρ2) ∧ (acc = (xs.filter p).map f ∧ ρ2 = W) := by
    refine w_lcGo (fun j acc ρ' => acc = ((xs.take j).filter p).map f ∧ ρ' = W) (xs.map F) 0 [] W ⟨by simp, rfl⟩ ?_ ?_
    · rintro j d acc ρ' hj ⟨rfl, rfl⟩
      rw [List.getElem?_map] at hj
      obtain ⟨x, hj', rfl⟩ := Option.map_eq_some_iff.mp hj
      replace hj := hj'
      obtain ⟨ρ1, e1, h⟩ := step j x hj
      have hjl := (List.getElem?_eq_some_iff.mp hj).1
      have tf : ((xs.take (j + 1)).filter p).map f = ((xs.take j).filter p).map f ++ (if p x = true then [f x] else []) := by
        rw [List.take_succ, hj]
        cases e : p x <;> simp [e]
      refine ⟨ρ1, e1, h.mono ?_⟩
      rintro b ρ2 ⟨rfl, h1, h2⟩
      rw [Nat.zero_add, tf]
      cases hb : p x with
      | true =>
        refine if_t ((h1 hb).mono ?_)
        rintro y ρ3 ⟨e, rfl⟩
        refine ⟨?_, rfl, e⟩
        rw [List.length_map, sizeLine_eq]
        have := List.length_filter_le p (xs.take j)
        rw [List.length_take] at this
        omega
      | false => exact if_f ⟨by simp, h2 hb⟩
    · rintro acc ρ' ⟨rfl, rfl⟩
      rw [Nat.zero_add, List.length_map, List.take_length]
      exact ⟨rfl, rfl⟩
  obtain ⟨acc, ρ2, e, rfl, rfl⟩ := key
  subst hW
  exact ⟨_, _, e, by rw [unwipe_wipe]; exact fin⟩
end
theorem v_r1 {n : Int} {K : List D → Prop} (h : -(2 ^ 62) ≤ n ∧ n < 2 ^ 62) (q : K ((List.range n.toNat).map fun (i : Nat) => PyData.int i)) : rng1 [.int n] K := r1_of h (by
  have : rangeD 0 n.toNat = (List.range n.toNat).map fun (i : Nat) => PyData.int i := by
    unfold rangeD
    refine List.map_congr_left fun i _ => ?_
    rw [Int.zero_add]
  rw [this]; exact q)
theorem rg_get {n j x : Nat} (h : (List.range n)[j]? = some x) : x = j ∧ j < n := by
  obtain ⟨h1, h2⟩ := List.getElem?_eq_some_iff.mp h
  rw [List.getElem_range] at h2
  exact ⟨h2.symm, by simpa using h1⟩
theorem nodup_rg {α : Type} {f : Nat → α} {n : Nat} (h : ∀ x y, x < n → y < n → f x = f y → x = y) : ((List.range n).map f).Nodup := by
  unfold List.Nodup
  rw [List.pairwise_map]
  refine List.pairwise_iff_getElem.mpr fun i j hi hj hij e => ?_
  rw [List.length_range] at hi hj
  rw [List.getElem_range, List.getElem_range] at e
  have := h i j hi hj e
  omega
section
variable {ρ : Ev} {QT : Bool → Ev → Prop} {Q : RV → Ev → Prop} {s : Str} {K : RV → Prop} {ma mb mc : ME} {g g' : D → D → Option RV} {i j : Int} {d : D} {xs : List D}
theorem w_yes (q : QT true ρ) : wp mYes ρ QT := ⟨_, _, rfl, q⟩
theorem o_eqS_same (q : K (.d (.bool true))) : op2 gEq (.str s) (.str s) K := o_eqS (by rw [beq_self_eq_true]; exact q)
theorem o_neS_same (q : K (.d (.bool false))) : op2 gNe (.str s) (.str s) K := o_neS (by rw [beq_self_eq_true]; exact q)
def chq (g : D → D → Option RV) (d e : D) (K : Bool → Prop) : Prop := ∃ b, g d e = some (.d (.bool b)) ∧ K b
theorem ch_le {K : Bool → Prop} (k : K (decide (i ≤ j))) : chq PL.gLe (.int i) (.int j) K := ⟨_, rfl, k⟩
theorem ch_lt {K : Bool → Prop} (k : K (decide (i < j))) : chq PL.gLt (.int i) (.int j) K := ⟨_, rfl, k⟩
theorem v_chain (h : wp ma ρ fun r1 ρ1 => wp mb ρ1 fun r2 ρ2 => lkq ρ2 r1 fun d => lkq ρ2 r2 fun e => chq g d e fun b => if b = true then wp mc ρ2 (fun r3 ρ3 => lkq ρ3 r2 fun e' => lkq ρ3 r3 fun f => op2 g' e' f fun z => Q z ρ3) else Q (.d (.bool false)) ρ2) : wp (mChain g g' ma mb mc) ρ Q := w_chain h
theorem v_dic0 (q : Q (.nl (.M [])) ρ) : wp mDic0 ρ Q := ⟨_, _, rfl, q⟩
theorem v_revL (k : K (.nl (.L xs.reverse))) : op1 gRevAny (.list xs) K := ⟨_, rfl, k⟩
theorem v_revT (k : K (.d (.tuple xs.reverse))) : op1 gRevAny (.tuple xs) K := ⟨_, rfl, k⟩
def tyq (d : D) (T : String) (P : Prop) : Prop := tyN d = T ∧ P
theorem ty_ok {T : String} {P : Prop} (h : tyN d = T) (p : P) : tyq d T P := ⟨h, p⟩
theorem v_mq {mas : MA} {T : String} {g : D → List D → Option RV} (h : wp ma ρ fun r ρ1 => lkq ρ1 r fun d0 => tyq d0 T (wp mas ρ1 fun rs ρ2 => lkq ρ2 r fun d => lks ρ2 rs fun ds => mq1 g d ds fun z => Q z ρ2)) : wp (mMq T g ma mas) ρ Q := w_mq h
end
theorem s1_L {xs : List D} {lo hi : Option Int} {K : RV → Prop} (q : K (.nl (.L (PL.cutD xs lo hi)))) : sl1 (.list xs) lo hi K := ⟨_, rfl, q⟩
theorem s1_T {xs : List D} {lo hi : Option Int} {K : RV → Prop} (q : K (.d (.tuple (PL.cutD xs lo hi)))) : sl1 (.tuple xs) lo hi K := ⟨_, rfl, q⟩
theorem cut_take {xs : List D} {m : Int} (h : 0 ≤ m) : PL.cutD xs none (some m) = xs.take m.toNat := by
  unfold PL.cutD HT.sIx
  have : ¬ m < 0 := by omega
  simp only [this, if_false]
  rw [List.drop_zero, Nat.sub_zero, Nat.min_comm, List.take_eq_take_min]
  simp [Nat.min_comm]
theorem cut_drop {xs : List D} {m : Int} (h : 0 ≤ m) : PL.cutD xs (some m) none = xs.drop m.toNat := by
  unfold PL.cutD HT.sIx
  have : ¬ m < 0 := by omega
  simp only [this, if_false]
  rw [List.take_of_length_le (by rw [List.length_drop]; exact Nat.le_refl _)]
  by_cases h2 : m.toNat ≤ xs.length
  · rw [Nat.min_eq_left h2]
  · rw [Nat.min_eq_right (by omega), List.drop_of_length_le (Nat.le_refl _), List.drop_of_length_le (by omega)]
/-! ### data without truths and dicts -/
mutual
def canon : D → Bool
  | .none => true
  | .bool _ => false
  | .int _ => true
  | .str _ => true
  | .list ds => canonAll ds
  | .tuple ds => canonAll ds
  | .dict _ => false
def canonAll : List D → Bool
  | [] => true
  | d :: ds => canon d && canonAll ds
end
mutual
theorem eqv_iff : ∀ (d e : D), canon d = true → canon e = true → (PyData.eqv d e = true ↔ d = e)
  | .none, .none, _, _ => by simp [PyData.eqv]
  | .int i, .int j, _, _ => by simp [PyData.eqv]
  | .str i, .str j, _, _ => by simp [PyData.eqv]
  | .list ds, .list es, h1, h2 => by
    have := eqvAll_iff ds es (by simpa [canon] using h1) (by simpa [canon] using h2)
    simpa [PyData.eqv] using this
  | .tuple ds, .tuple es, h1, h2 => by
    have := eqvAll_iff ds es (by simpa [canon] using h1) (by simpa [canon] using h2)
    simpa [PyData.eqv] using this
  | .none, .int _, _, _ => by simp [PyData.eqv]
  | .none, .str _, _, _ => by simp [PyData.eqv]
  | .none, .list _, _, _ => by simp [PyData.eqv]
  | .none, .tuple _, _, _ => by simp [PyData.eqv]
  | .int _, .none, _, _ => by simp [PyData.eqv]
  | .int _, .str _, _, _ => by simp [PyData.eqv]
  | .int _, .list _, _, _ => by simp [PyData.eqv]
  | .int _, .tuple _, _, _ => by simp [PyData.eqv]
  | .str _, .none, _, _ => by simp [PyData.eqv]
  | .str _, .int _, _, _ => by simp [PyData.eqv]
  | .str _, .list _, _, _ => by simp [PyData.eqv]
  | .str _, .tuple _, _, _ => by simp [PyData.eqv]
  | .list _, .none, _, _ => by simp [PyData.eqv]
  | .list _, .int _, _, _ => by simp [PyData.eqv]
  | .list _, .str _, _, _ => by simp [PyData.eqv]
  | .list _, .tuple _, _, _ => by simp [PyData.eqv]
  | .tuple _, .none, _, _ => by simp [PyData.eqv]
  | .tuple _, .int _, _, _ => by simp [PyData.eqv]
  | .tuple _, .str _, _, _ => by simp [PyData.eqv]
  | .tuple _, .list _, _, _ => by simp [PyData.eqv]
  | .bool _, _, h, _ => by cases h
  | .dict _, _, h, _ => by cases h
  | .none, .bool _, _, h => by cases h
  | .int _, .bool _, _, h => by cases h
  | .str _, .bool _, _, h => by cases h
  | .list _, .bool _, _, h => by cases h
  | .tuple _, .bool _, _, h => by cases h
  | .none, .dict _, _, h => by cases h
  | .int _, .dict _, _, h => by cases h
  | .str _, .dict _, _, h => by cases h
  | .list _, .dict _, _, h => by cases h
  | .tuple _, .dict _, _, h => by cases h
theorem eqvAll_iff : ∀ (ds es : List D), canonAll ds = true → canonAll es = true → (PyData.eqvAll ds es = true ↔ ds = es)
  | [], [], _, _ => by simp [PyData.eqvAll]
  | [], _ :: _, _, _ => by simp [PyData.eqvAll]
  | _ :: _, [], _, _ => by simp [PyData.eqvAll]
  | d :: ds, e :: es, h1, h2 => by
    have h1 : canon d = true ∧ canonAll ds = true := by simpa [canonAll] using h1
    have h2 : canon e = true ∧ canonAll es = true := by simpa [canonAll] using h2
    have a := eqv_iff d e h1.1 h2.1
    have b := eqvAll_iff ds es h1.2 h2.2
    simp [PyData.eqvAll, a, b]
end
theorem canonAll_of {ds : List D} (h : ∀ d ∈ ds, canon d = true) : canonAll ds = true := by
  induction ds with
  | nil => rfl
  | cons d ds ih =>
    show (canon d && canonAll ds) = true
    rw [h d List.mem_cons_self, ih fun x hx => h x (List.mem_cons_of_mem _ hx)]
    rfl
end PL

/-! V0b: more steps: frozen arguments, two clauses, pairs, indexes. -/
namespace PL
open PySem PySem.Spec PyProof.Rows L2
variable [TheW]
theorem w_of {md : MD} {ρ : Ev} {Q : RV → Ev → Prop} (h : wp md ρ fun d ρ1 => Q (.d d) ρ1) : wp (mOf md) ρ Q := by
  obtain ⟨d, ρ1, e, q⟩ := h
  exact ⟨_, _, by unfold mOf; rw [e]; rfl, q⟩
section
variable {ρ W : Ev} {mi mi1 : MDs} {g g1 : MG} {t t1 : MT} {m : MD} {vs vs1 : List Nat} {Q : RV → Ev → Prop} {items : List D}
end
theorem first_idx {z : Str} : ∀ {ss : List Str}, z ∈ ss → firstS z ss = some (ss.idxOf z)
  | s :: ss, h => by
    unfold firstS
    rw [List.idxOf_cons]
    by_cases e : s = z
    · subst e; simp
    · rw [if_neg e]
      have : z ∈ ss := by
        rcases List.mem_cons.mp h with h | h
        · exact absurd h.symm e
        · exact h
      rw [first_idx this]
      have : (s == z) = false := beq_eq_false_iff_ne.mpr e
      rw [this]
      rfl
theorem strs_map (ss : List Str) : strsOf (ss.map .str) = some ss := by
  induction ss with
  | nil => rfl
  | cons s ss ih => simp [strsOf, ih]
theorem v_indexT {z : Str} {ss : List Str} {K : RV → Prop} (h : z ∈ ss) (q : K (.d (.int (ss.idxOf z : Nat)))) : mq1 gIndexT (.tuple (ss.map .str)) [.str z] K :=
  ⟨.d (.int (ss.idxOf z : Nat)), by
    show ((strsOf (ss.map PyData.str)).bind fun ss => (firstS z ss).map fun j => RV.d (.int (j : Nat))) = _
    rw [strs_map, Option.bind_some, first_idx h]
    rfl, q⟩
def mnN : List Nat → Nat
  | [] => 0
  | n :: ns => ns.foldl min n
def mxN : List Nat → Nat
  | [] => 0
  | n :: ns => ns.foldl max n
end PL

/-! V0c: three targets. -/
namespace PL
open PySem PySem.Spec PyProof.Rows L2
variable [TheW]
theorem t_triple {ρ ρ1 ρ2 ρ3 : Ev} {i j l : Nat} {d e f : D} {K : Ev → Prop} (h : noBrw ρ[i]? = true) (q : ρ.set i (.v d) = ρ1) (h2 : noBrw ρ1[j]? = true) (q2 : ρ1.set j (.v e) = ρ2) (h3 : noBrw ρ2[l]? = true) (q3 : ρ2.set l (.v f) = ρ3) (k : K ρ3) :
    tg1 (gTup' 3 (gCons' (gN i) (gCons' (gN j) (gCons' (gN l) gNil')))) (.tuple [d, e, f]) ρ K := by
  refine ⟨ρ3, ?_, k⟩
  subst q; subst q2; subst q3
  simp [gTup', gCons', gNil', gN, h, h2, h3]
end PL

/-! V0d: dicts. -/
namespace PL
open PySem PySem.Spec PyProof.Rows L2
variable [TheW]
section
variable {K : RV → Prop} {kvs : List (D × D)} {k d : D}
theorem o_ixM (h : dGet kvs k = some (some d)) (q : K (.d d)) : op2 gIx (.dict kvs) k K := ⟨.d d, by
  show ((dGet kvs k).bind fun o => o.map RV.d) = _
  rw [h]
  rfl, q⟩
end
theorem w_enumT {ms : MDs} {ρ : Ev} {Q : List D → Ev → Prop} (h : wp ms ρ fun ds ρ1 => ∃ xs, ds = [.tuple xs] ∧ Q (enumD xs) ρ1) : wp (mEnumT ms) ρ Q := by
  obtain ⟨ds, ρ1, e1, xs, rfl, q⟩ := h
  exact ⟨_, ρ1, by unfold mEnumT; simp [e1], q⟩
/-- a dict with texts for keys -/
abbrev sM {α : Type} (kf : α → Str) (vf : α → D) (xs : List α) : List (D × D) := xs.map fun x => (.str (kf x), vf x)
theorem sM_kOk {α : Type} {kf : α → Str} {vf : α → D} {xs : List α} {z : Str} : kOk (sM kf vf xs) (.str z) = true := by
  cases xs <;> rfl
theorem sM_get {α : Type} {kf : α → Str} {vf : α → D} {xs : List α} {z : Str} : dGet (sM kf vf xs) (.str z) = some ((xs.find? fun x => decide (kf x = z)).map vf) := by
  show (if kOk (sM kf vf xs) (.str z) = true then some (dFind (sM kf vf xs) (.text z)) else none) = _
  rw [if_pos sM_kOk]
  congr 1
  unfold dFind
  induction xs with
  | nil => rfl
  | cons x xs ih =>
    rw [show sM kf vf (x :: xs) = (.str (kf x), vf x) :: sM kf vf xs from rfl, List.find?_cons, List.find?_cons]
    show Option.map _ (match decide (some (NestedKey.text (kf x)) = some (NestedKey.text z)) with | true => _ | false => _) = _
    by_cases e : kf x = z
    · rw [decide_eq_true (by rw [e]), decide_eq_true e]
      rfl
    · rw [decide_eq_false (fun h => e (by injection h with h; injection h)), decide_eq_false e]
      exact ih
theorem find_nd {α : Type} {kf : α → Str} : ∀ {xs : List α} {x : α}, (xs.map kf).Nodup → x ∈ xs → (xs.find? fun y => decide (kf y = kf x)) = some x
  | y :: xs, x, nd, h => by
    rw [List.map_cons, List.nodup_cons] at nd
    rw [List.find?_cons]
    rcases List.mem_cons.mp h with rfl | h
    · simp
    · have : ¬ kf y = kf x := fun e => nd.1 (by rw [e]; exact List.mem_map.mpr ⟨x, h, rfl⟩)
      rw [decide_eq_false this]
      exact find_nd nd.2 h
theorem sM_at {α : Type} {kf : α → Str} {vf : α → D} {xs : List α} {x : α} (nd : (xs.map kf).Nodup) (h : x ∈ xs) : dGet (sM kf vf xs) (.str (kf x)) = some (some (vf x)) := by
  rw [sM_get, find_nd nd h]
  rfl
theorem dset_new {kvs : List (D × D)} {k : NestedKey} {x d : D} (h : dFind kvs k = none) : dSet kvs k x d = kvs ++ [(x, d)] := by
  unfold dSet
  rw [h]
  rfl
theorem sM_none {α : Type} {kf : α → Str} {vf : α → D} {xs : List α} {z : Str} (h : z ∉ xs.map kf) : dFind (sM kf vf xs) (.text z) = none := by
  have e := sM_get (kf := kf) (vf := vf) (xs := xs) (z := z)
  have e2 : dGet (sM kf vf xs) (.str z) = some (dFind (sM kf vf xs) (.text z)) := if_pos sM_kOk
  rw [e2] at e
  have e3 : (xs.find? fun x => decide (kf x = z)) = none := by
    refine List.find?_eq_none.mpr fun x hx hd => h ?_
    rw [← of_decide_eq_true hd]
    exact List.mem_map.mpr ⟨x, hx, rfl⟩
  rw [e3] at e
  injection e
def dcv (g : MG) (t : MT) (mk mv : MD) (vs : List Nat) (items : List D) (ρ : Ev) (Q : RV → Ev → Prop) : Prop := ∃ acc ρ2, mDcGo g t mk mv vs items [] (wipeE ρ vs) = some (acc, ρ2) ∧ Q (.nl (.M acc)) (unwipe ρ ρ2 vs)
section
variable {ρ W : Ev} {mi : MDs} {g : MG} {t : MT} {mk mv : MD} {vs : List Nat} {Q : RV → Ev → Prop}
theorem v_dc (h : wp mi ρ fun items ρ1 => freeE ρ1 vs = true ∧ dcv g t mk mv vs items ρ1 Q) : wp (mDc mi g t mk mv vs) ρ Q := by
  obtain ⟨items, ρ1, e1, hf, acc, ρ2, e2, q⟩ := h
  exact ⟨_, _, by unfold mDc; simp [e1, hf, e2], q⟩
theorem dcS_ok {α : Type} {F : α → D} {kf : α → Str} {vf : α → D} : ∀ (xs ys : List α), ys.length + xs.length ≤ 1000 → ((ys ++ xs).map kf).Nodup →
    (∀ x ∈ xs, tg1 g (F x) W fun ρ1 => wp t ρ1 fun b ρ2 => b = true ∧ wp mk ρ2 fun k ρ3 => k = .str (kf x) ∧ wp mv ρ3 fun v ρ4 => wipeE ρ4 vs = W ∧ v = vf x) → mDcGo g t mk mv vs (xs.map F) (sM kf vf ys) W = some (sM kf vf (ys ++ xs), W)
  | [], ys, _, _, _ => by
    rw [List.append_nil]
    rfl
  | x :: xs, ys, hl, nd, step => by
    obtain ⟨ρ1, e1, b, ρ2, e2, rfl, k, ρ3, e3, rfl, v, ρ4, e4, e5, rfl⟩ := step x List.mem_cons_self
    have ih := dcS_ok xs (ys ++ [x]) (by rw [List.length_append]; simp only [List.length_cons, List.length_nil] at hl ⊢; omega) (by rw [List.append_assoc]; exact nd) fun z hz => step z (List.mem_cons_of_mem _ hz)
    have hn : kf x ∉ ys.map kf := by
      rw [List.map_append, List.map_cons] at nd
      have := List.nodup_append.mp nd
      exact fun h => this.2.2 _ h _ List.mem_cons_self rfl
    rw [List.map_cons]
    unfold mDcGo
    have hk : keyK (.str (kf x)) = some (Sum.inr (kf x)) := rfl
    have hz : (sM kf vf ys).length < 2 ^ 20 := by rw [List.length_map]; simp only [List.length_cons] at hl; omega
    simp only [e1, e2, e3, e4, Option.bind_some, if_true, hk, hz]
    rw [show nkK (Sum.inr (kf x)) = NestedKey.text (kf x) from rfl, dset_new (sM_none hn), e5]
    rw [show sM kf vf ys ++ [(PyData.str (kf x), vf x)] = sM kf vf (ys ++ [x]) from (List.map_append (f := fun x => (PyData.str (kf x), vf x)) (l₁ := ys) (l₂ := [x])).symm, ih, List.append_assoc]
    rfl
/-- texts for keys, each once -/
theorem v_dcS {α : Type} {F : α → D} {kf : α → Str} {vf : α → D} {xs : List α} (hW : wipeE ρ vs = W) (hl : xs.length ≤ 1000) (nd : (xs.map kf).Nodup)
    (step : ∀ x ∈ xs, tg1 g (F x) W fun ρ1 => wp t ρ1 fun b ρ2 => b = true ∧ wp mk ρ2 fun k ρ3 => k = .str (kf x) ∧ wp mv ρ3 fun v ρ4 => wipeE ρ4 vs = W ∧ v = vf x)
    (fin : Q (.nl (.M (sM kf vf xs))) ρ) : dcv g t mk mv vs (xs.map F) ρ Q := by
  refine ⟨_, _, by rw [hW]; exact dcS_ok xs [] (by simpa using hl) (by simpa using nd) step, ?_⟩
  rw [← hW, unwipe_wipe]
  exact fin
end
end PL

namespace PK
open PySem PySem.Spec PyProof.Rows L2 PL
/-! ### the goal's head -/
section
variable {ρ ρ1 : Ev}
theorem g_wpS {m : MS} {Q : Out → Ev → Prop} (h : wp m ρ Q) : wp m ρ Q := h
theorem g_wpE {m : ME} {Q : RV → Ev → Prop} (h : wp m ρ Q) : wp m ρ Q := h
theorem g_wpT {m : MT} {Q : Bool → Ev → Prop} (h : wp m ρ Q) : wp m ρ Q := h
theorem g_wpDs {m : MDs} {Q : List D → Ev → Prop} (h : wp m ρ Q) : wp m ρ Q := h
theorem g_wpA {m : MA} {Q : List RV → Ev → Prop} (h : wp m ρ Q) : wp m ρ Q := h
theorem g_wpO {m : MO} {Q : Option Int → Ev → Prop} (h : wp m ρ Q) : wp m ρ Q := h
theorem g_lkq {r : RV} {K : D → Prop} (h : lkq ρ r K) : lkq ρ r K := h
theorem g_fz1 {r : RV} {K : D → Ev → Prop} (h : fz1 ρ r K) : fz1 ρ r K := h
theorem g_op1 {g : D → Option RV} {d : D} {K : RV → Prop} (h : op1 g d K) : op1 g d K := h
theorem g_op2 {g : D → D → Option RV} {d e : D} {K : RV → Prop} (h : op2 g d e K) : op2 g d e K := h
theorem g_opn {g : List D → Option RV} {ds : List D} {K : RV → Prop} (h : opn g ds K) : opn g ds K := h
theorem g_lks {rs : List RV} {K : List D → Prop} (h : lks ρ rs K) : lks ρ rs K := h
theorem g_mtk {i : Nat} {g : OC → List D → Option (OC × D)} {ds : List D} {K : D → Ev → Prop} (h : mtk i g ds ρ K) : mtk i g ds ρ K := h
theorem g_sl1 {d : D} {l u : Option Int} {K : RV → Prop} (h : sl1 d l u K) : sl1 d l u K := h
theorem g_sq1 {d : D} {K : List D → Prop} (h : sq1 d K) : sq1 d K := h
theorem g_tg1 {g : MG} {d : D} {K : Ev → Prop} (h : tg1 g d ρ K) : tg1 g d ρ K := h
theorem g_sto {i : Nat} {r : RV} {K : Ev → Prop} (h : sto i r ρ K) : sto i r ρ K := h
theorem g_stoAll {is : List Nat} {rs : List RV} {K : Ev → Prop} (h : stoAll is rs ρ K) : stoAll is rs ρ K := h
theorem g_argq {rs : List RV} {K : Ev → Prop} (h : argq ρ rs K) : argq ρ rs K := h
theorem g_ret1 {rs : List RV} {r : RV} {outs : Ev} {K : RV → Ev → Prop} (h : ret1 rs ρ1 r outs K) : ret1 rs ρ1 r outs K := h
theorem g_retq {dvs : Ev} {Q : RV → Ev → Prop} {o : Out} (h : retq dvs Q o ρ1) : retq dvs Q o ρ1 := h
theorem g_endq {Inv : Ev → Prop} {QO : Out → Ev → Prop} {o : Out} (h : endq Inv QO o ρ) : endq Inv QO o ρ := h
theorem g_chq {g : D → D → Option RV} {d e : D} {K : Bool → Prop} (h : chq g d e K) : chq g d e K := h
end
end PK

/-! V0h: instances in the step table. -/
namespace PL
open PySem PySem.Spec PyProof.Rows L2
variable [TheW]
section
variable {ρ ρ1 ρ2 : Ev} {C f mt : Str} {fs : List (Str × D)} {d : D} {m mo : ME} {ms : MA} {fm : ME} {Q : RV → Ev → Prop} {i : Nat} {fi : Ev → Option (List (Str × D) × Ev)}
theorem w_varOb (h : ρ[i]? = some (.ob C fs)) (q : Q (.ob C fs) ρ) : wp (mVar i) ρ Q := ⟨_, _, by unfold mVar; rw [h], q⟩
def fldq (C f : Str) (r : RV) (K : D → Prop) : Prop := ∃ fs d, r = .ob C fs ∧ fs.lookup f = some d ∧ K d
theorem fq_ok {K : D → Prop} (h : fs.lookup f = some d) (k : K d) : fldq C f (.ob C fs) K := ⟨fs, d, rfl, h, k⟩
theorem w_fld (h : wp m ρ fun r ρ1 => fldq C f r fun d => Q (.d d) ρ1) : wp (mFld C f m) ρ Q := by
  obtain ⟨r, ρ1, e1, fs, d, rfl, e2, q⟩ := h
  exact ⟨_, ρ1, by unfold mFld; simp [e1, e2], q⟩
def metq (C mt : Str) (r : RV) (K : List (Str × D) → Prop) : Prop := ∃ fs, r = .ob C fs ∧ fs.lookup mt = none ∧ K fs
theorem mq_ok {K : List (Str × D) → Prop} (h : fs.lookup mt = none) (k : K fs) : metq C mt (.ob C fs) K := ⟨fs, rfl, h, k⟩
theorem w_meth (h : wp mo ρ fun r ρ1 => metq C mt r fun fs => wp ms ρ1 fun rs ρ2 => callq fm (.ob C fs :: rs) ρ2 Q) : wp (mMeth C mt fm mo ms) ρ Q := by
  obtain ⟨r, ρ1, e1, fs, rfl, e2, rs, ρ2, e3, k⟩ := h
  have hc : wp (mCall fm fun ρ1 => (ms ρ1).map fun q => (RV.ob C fs :: q.1, q.2)) ρ1 Q := v_call ⟨_, ρ2, by show (ms ρ1).map _ = _; rw [e3]; rfl, k⟩
  obtain ⟨r, ρ3, e4, q⟩ := hc
  exact ⟨r, ρ3, by unfold mMeth; rw [e1]; show (if C = C ∧ fs.lookup mt = none then _ else _) = _; rw [if_pos ⟨rfl, e2⟩]; exact e4, q⟩
def iniq (fi : Ev → Option (List (Str × D) × Ev)) (dvs : Ev) (K : List (Str × D) → Ev → Prop) : Prop := ∃ fs outs, fi dvs = some (fs, outs) ∧ K fs outs
def ndq (l : List Nat) (P : Prop) : Prop := nodupB l = true ∧ P
theorem w_make (h : wp ms ρ fun rs ρ1 => ndq (alsOf rs) (argq ρ1 rs fun dvs => iniq fi dvs fun fs outs => ∀ ρ2, pbs rs outs ρ1 = ρ2 → Q (.ob C fs) ρ2)) : wp (mMake C fi ms) ρ Q := by
  obtain ⟨rs, ρ1, e1, nd, dvs, e2, fs, outs, e3, q⟩ := h
  have nd := nodupB_ok nd
  refine ⟨.ob C fs, putBack ρ1 rs outs, ?_, by rw [putBack_pbs nd]; exact q _ rfl⟩
  unfold mMake
  rw [e1]
  show (if (alsOf rs).Nodup then _ else _) = _
  rw [if_pos nd, e2]
  show (fi dvs).map _ = _
  rw [e3]
  rfl
theorem nd_ok {l : List Nat} {P : Prop} (h : nodupB l = true) (k : P) : ndq l P := ⟨h, k⟩
end
end PL

/-! V0i: steps through defs that may raise, through a try. -/
namespace PL
open PySem PySem.Spec PyProof.Rows L2
variable [TheW]
section
variable {ρ ρ1 ρ2 : Ev} {Q : OX → Ev → Prop} {QE : RX → Ev → Prop} {ms : MS} {me : ME} {mt : MT} {a b : MSX} {m : MEX} {C : Str} {r : RV} {o : Out} {i : Nat}
theorem g_wpSX {m : MSX} (h : wp m ρ Q) : wp m ρ Q := h
theorem g_wpEX {m : MEX} (h : wp m ρ QE) : wp m ρ QE := h
theorem wx_lift (h : wp ms ρ fun o ρ1 => Q (.o o) ρ1) : wp (xLift ms) ρ Q := by
  obtain ⟨o, ρ1, e, q⟩ := h
  exact ⟨.o o, ρ1, by unfold xLift; rw [e]; rfl, q⟩
theorem wx_liftE (h : wp me ρ fun o ρ1 => QE (.ok o) ρ1) : wp (xLiftE me) ρ QE := by
  obtain ⟨o, ρ1, e, q⟩ := h
  exact ⟨.ok o, ρ1, by unfold xLiftE; rw [e]; rfl, q⟩
def xsq (b : MSX) (Q : OX → Ev → Prop) (o : OX) (ρ : Ev) : Prop := match o with
  | .o .nx => wp b ρ Q
  | o => Q o ρ
theorem xs_nx (h : wp b ρ Q) : xsq b Q (.o .nx) ρ := h
theorem xs_rt (h : Q (.o (.rt r)) ρ) : xsq b Q (.o (.rt r)) ρ := h
theorem xs_ex (h : Q (.ex C) ρ) : xsq b Q (.ex C) ρ := h
theorem g_xsq {o : OX} (h : xsq b Q o ρ) : xsq b Q o ρ := h
theorem wx_seq (h : wp a ρ (xsq b Q)) : wp (xSeq a b) ρ Q := by
  obtain ⟨o, ρ1, e, q⟩ := h
  cases o with
  | ex C => exact ⟨.ex C, ρ1, by unfold xSeq; rw [e]; rfl, q⟩
  | o o =>
    cases o with
    | nx =>
      obtain ⟨o2, ρ2, e2, q2⟩ := q
      exact ⟨o2, ρ2, by unfold xSeq; rw [e]; exact e2, q2⟩
    | bk => exact ⟨_, ρ1, by unfold xSeq; rw [e]; rfl, q⟩
    | ct => exact ⟨_, ρ1, by unfold xSeq; rw [e]; rfl, q⟩
    | rt r => exact ⟨_, ρ1, by unfold xSeq; rw [e]; rfl, q⟩
theorem wx_if (h : wp mt ρ fun c ρ1 => if c = true then wp a ρ1 Q else wp b ρ1 Q) : wp (xIf mt a b) ρ Q := by
  obtain ⟨c, ρ1, e, q⟩ := h
  cases c with
  | true =>
    obtain ⟨o2, ρ2, e2, q2⟩ := q
    exact ⟨o2, ρ2, by unfold xIf; rw [e]; exact e2, q2⟩
  | false =>
    obtain ⟨o2, ρ2, e2, q2⟩ := q
    exact ⟨o2, ρ2, by unfold xIf; rw [e]; exact e2, q2⟩
theorem wx_raise (q : Q (.ex C) ρ) : wp (xRaise C) ρ Q := ⟨_, _, rfl, q⟩
def xdq (Q : OX → Ev → Prop) (r : RX) (ρ : Ev) : Prop := match r with
  | .ok _ => Q (.o .nx) ρ
  | .ex C => Q (.ex C) ρ
theorem xd_ok (q : Q (.o .nx) ρ) : xdq Q (.ok r) ρ := q
theorem xd_ex (q : Q (.ex C) ρ) : xdq Q (.ex C) ρ := q
theorem g_xdq {r : RX} (h : xdq Q r ρ) : xdq Q r ρ := h
theorem wx_drop (h : wp m ρ (xdq Q)) : wp (xDrop m) ρ Q := by
  obtain ⟨r, ρ1, e, q⟩ := h
  cases r with
  | ok r => exact ⟨_, ρ1, by unfold xDrop; rw [e]; rfl, q⟩
  | ex C => exact ⟨_, ρ1, by unfold xDrop; rw [e]; rfl, q⟩
def xrq (Q : OX → Ev → Prop) (r : RX) (ρ : Ev) : Prop := match r with
  | .ok r => Q (.o (.rt r)) ρ
  | .ex C => Q (.ex C) ρ
theorem xr_ok (q : Q (.o (.rt r)) ρ) : xrq Q (.ok r) ρ := q
theorem xr_ex (q : Q (.ex C) ρ) : xrq Q (.ex C) ρ := q
theorem g_xrq {r : RX} (h : xrq Q r ρ) : xrq Q r ρ := h
theorem wx_ret (h : wp m ρ (xrq Q)) : wp (xRet m) ρ Q := by
  obtain ⟨r, ρ1, e, q⟩ := h
  cases r with
  | ok r => exact ⟨_, ρ1, by unfold xRet; rw [e]; rfl, q⟩
  | ex C => exact ⟨_, ρ1, by unfold xRet; rw [e]; rfl, q⟩
def xsetq (i : Nat) (Q : OX → Ev → Prop) (r : RX) (ρ : Ev) : Prop := match r with
  | .ok r => sto i r ρ fun ρ1 => Q (.o .nx) ρ1
  | .ex C => Q (.ex C) ρ
theorem xst_ok (q : sto i r ρ fun ρ1 => Q (.o .nx) ρ1) : xsetq i Q (.ok r) ρ := q
theorem xst_ex (q : Q (.ex C) ρ) : xsetq i Q (.ex C) ρ := q
theorem g_xsetq {r : RX} (h : xsetq i Q r ρ) : xsetq i Q r ρ := h
theorem wx_set (h : wp m ρ (xsetq i Q)) : wp (xSet i m) ρ Q := by
  obtain ⟨r, ρ1, e, q⟩ := h
  cases r with
  | ok r =>
    obtain ⟨ρ2, e2, q⟩ := q
    exact ⟨_, ρ2, by unfold xSet; rw [e]; show (stE i r ρ1).map _ = _; rw [e2]; rfl, q⟩
  | ex C => exact ⟨_, ρ1, by unfold xSet; rw [e]; rfl, q⟩
def xtupq (QE : RX → Ev → Prop) (r : RX) (ρ : Ev) : Prop := match r with
  | .ok r => fz1 ρ r fun d ρ1 => QE (.ok (.d (.tuple [d]))) ρ1
  | .ex C => QE (.ex C) ρ
theorem xt_ok (q : fz1 ρ r fun d ρ1 => QE (.ok (.d (.tuple [d]))) ρ1) : xtupq QE (.ok r) ρ := q
theorem xt_ex (q : QE (.ex C) ρ) : xtupq QE (.ex C) ρ := q
theorem g_xtupq {r : RX} (h : xtupq QE r ρ) : xtupq QE r ρ := h
theorem wx_tup1 (h : wp m ρ (xtupq QE)) : wp (xTup1 m) ρ QE := by
  obtain ⟨r, ρ1, e, q⟩ := h
  cases r with
  | ok r =>
    obtain ⟨d, ρ2, e2, q⟩ := q
    exact ⟨_, ρ2, by unfold xTup1; rw [e]; show (frz ρ1 r).map _ = _; rw [e2]; rfl, q⟩
  | ex C => exact ⟨_, ρ1, by unfold xTup1; rw [e]; rfl, q⟩
theorem wx_ifE {ma mb : MEX} (h : wp mt ρ fun c ρ1 => if c = true then wp ma ρ1 QE else wp mb ρ1 QE) : wp (xIfE mt ma mb) ρ QE := by
  obtain ⟨c, ρ1, e, q⟩ := h
  cases c with
  | true =>
    obtain ⟨o2, ρ2, e2, q2⟩ := q
    exact ⟨o2, ρ2, by unfold xIfE; rw [e]; exact e2, q2⟩
  | false =>
    obtain ⟨o2, ρ2, e2, q2⟩ := q
    exact ⟨o2, ρ2, by unfold xIfE; rw [e]; exact e2, q2⟩
def xopq (g : D → D → Option RV) (mb : ME) (QE : RX → Ev → Prop) (r : RX) (ρ : Ev) : Prop := match r with
  | .ok r => wp mb ρ fun r2 ρ2 => lkq ρ2 r fun d => lkq ρ2 r2 fun e => op2 g d e fun z => QE (.ok z) ρ2
  | .ex C => QE (.ex C) ρ
theorem xo_ok {g : D → D → Option RV} (q : wp me ρ fun r2 ρ2 => lkq ρ2 r fun d => lkq ρ2 r2 fun e => op2 g d e fun z => QE (.ok z) ρ2) : xopq g me QE (.ok r) ρ := q
theorem xo_ex {g : D → D → Option RV} (q : QE (.ex C) ρ) : xopq g me QE (.ex C) ρ := q
theorem g_xopq {g : D → D → Option RV} {r : RX} (h : xopq g me QE r ρ) : xopq g me QE r ρ := h
theorem wx_op2 {g : D → D → Option RV} (h : wp m ρ (xopq g me QE)) : wp (xOp2 g m me) ρ QE := by
  obtain ⟨r, ρ1, e, q⟩ := h
  cases r with
  | ok r =>
    obtain ⟨r2, ρ2, e2, d, e3, d2, e4, z, e5, q⟩ := q
    exact ⟨.ok z, ρ2, by unfold xOp2; rw [e]; show (me ρ1).bind _ = _; rw [e2, Option.bind_some, e3, Option.bind_some, e4, Option.bind_some, e5]; rfl, q⟩
  | ex C => exact ⟨_, ρ1, by unfold xOp2; rw [e]; rfl, q⟩
/-! ### calls -/
def xret1 (rs : List RV) (ρ1 : Ev) (K : RX → Ev → Prop) (r : RX) (outs : Ev) : Prop := match r with
  | .ok (.al _) => False
  | r => ∀ ρ2, pbs rs outs ρ1 = ρ2 → K r ρ2
variable {rs : List RV} {outs : Ev} {K : RX → Ev → Prop} {d : D} {fx : MEX} {mas : MA}
theorem xc_d (e : pbs rs outs ρ1 = ρ2) (k : K (.ok (.d d)) ρ2) : xret1 rs ρ1 K (.ok (.d d)) outs := fun ρ e' => by rw [← e', e]; exact k
theorem xc_nl {o : OC} (e : pbs rs outs ρ1 = ρ2) (k : K (.ok (.nl o)) ρ2) : xret1 rs ρ1 K (.ok (.nl o)) outs := fun ρ e' => by rw [← e', e]; exact k
theorem xc_ob {D' : Str} {fs : List (Str × D)} (e : pbs rs outs ρ1 = ρ2) (k : K (.ok (.ob D' fs)) ρ2) : xret1 rs ρ1 K (.ok (.ob D' fs)) outs := fun ρ e' => by rw [← e', e]; exact k
theorem xc_ex (e : pbs rs outs ρ1 = ρ2) (k : K (.ex C) ρ2) : xret1 rs ρ1 K (.ex C) outs := fun ρ e' => by rw [← e', e]; exact k
theorem g_xret1 {r : RX} (h : xret1 rs ρ1 K r outs) : xret1 rs ρ1 K r outs := h
def xcallq (fx : MEX) (rs : List RV) (ρ1 : Ev) (K : RX → Ev → Prop) : Prop := nodupB (alsOf rs) = true ∧ argq ρ1 rs fun dvs => wp fx dvs (xret1 rs ρ1 K)
theorem xcallq_ok (h : nodupB (alsOf rs) = true) (k : argq ρ1 rs fun dvs => wp fx dvs (xret1 rs ρ1 K)) : xcallq fx rs ρ1 K := ⟨h, k⟩
theorem xcallR_of (h : xcallq fx rs ρ1 K) : ∃ r ρ2, xCallR fx rs ρ1 = some (r, ρ2) ∧ K r ρ2 := by
  obtain ⟨nd, dvs, e1, r, outs, e2, q⟩ := h
  have nd := nodupB_ok nd
  have pb := putBack_pbs (ρ := ρ1) (outs := outs) nd
  cases r with
  | ex C => exact ⟨.ex C, _, by unfold xCallR; rw [if_pos nd, e1]; show (fx dvs).bind _ = _; rw [e2]; rfl, q _ pb.symm⟩
  | ok r =>
    cases r with
    | al i => exact q.elim
    | d d => exact ⟨.ok (.d d), _, by unfold xCallR; rw [if_pos nd, e1]; show (fx dvs).bind _ = _; rw [e2]; rfl, q _ pb.symm⟩
    | nl o => exact ⟨.ok (.nl o), _, by unfold xCallR; rw [if_pos nd, e1]; show (fx dvs).bind _ = _; rw [e2]; rfl, q _ pb.symm⟩
    | ob C fs => exact ⟨.ok (.ob C fs), _, by unfold xCallR; rw [if_pos nd, e1]; show (fx dvs).bind _ = _; rw [e2]; rfl, q _ pb.symm⟩
theorem wx_call (h : wp mas ρ fun rs ρ1 => xcallq fx rs ρ1 K) : wp (xCall fx mas) ρ K := by
  obtain ⟨rs, ρ1, e, h⟩ := h
  obtain ⟨r, ρ2, e2, k⟩ := xcallR_of h
  exact ⟨r, ρ2, by unfold xCall; rw [e]; exact e2, k⟩
theorem wx_callK {n : Nat} {idx : List Nat} (h : wp mas ρ fun rs ρ1 => rs.length = n ∧ ∃ rs', pick idx rs = rs' ∧ xcallq fx rs' ρ1 K) : wp (xCallK fx n idx mas) ρ K := by
  obtain ⟨rs, ρ1, e, hn, rs', rfl, h⟩ := h
  obtain ⟨r, ρ2, e2, k⟩ := xcallR_of h
  exact ⟨r, ρ2, by unfold xCallK; rw [e]; show (if rs.length = n then _ else _) = _; rw [if_pos hn]; exact e2, k⟩
/-! ### the body -/
def xretq (dvs : Ev) (Q : RX → Ev → Prop) (o : OX) (ρ1 : Ev) : Prop := match o with
  | .ex C => Q (.ex C) (outl ρ1 0 dvs)
  | .o o => retq dvs (fun r => Q (.ok r)) o ρ1
variable {dvs : Ev}
theorem xq_ex (e : outl ρ1 0 dvs = outs) (q : QE (.ex C) outs) : xretq dvs QE (.ex C) ρ1 := by subst e; exact q
theorem xq_o {o : Out} (q : retq dvs (fun r => QE (.ok r)) o ρ1) : xretq dvs QE (.o o) ρ1 := q
theorem g_xretq {o : OX} (h : xretq dvs QE o ρ1) : xretq dvs QE o ρ1 := h
theorem wx_fn {np n : Nat} (hl : dvs.length = np) (hp : plainArgs dvs = true) (e : dvs ++ List.replicate (n - np) .un = ρ) (h : wp a ρ (xretq dvs QE)) : wp (mFnX np n a) dvs QE := by
  subst e
  obtain ⟨o, ρ1, e1, q⟩ := h
  have go : ∀ r, (∃ f : OX × Ev → Option (RX × Ev), mFnX np n a dvs = (a (dvs ++ List.replicate (n - np) .un)).bind f ∧ f (o, ρ1) = some (r, outl ρ1 0 dvs)) → mFnX np n a dvs = some (r, outl ρ1 0 dvs) := fun r ⟨f, h1, h2⟩ => by
    rw [h1, e1, Option.bind_some, h2]
  have u : ∃ f : OX × Ev → Option (RX × Ev), mFnX np n a dvs = (a (dvs ++ List.replicate (n - np) .un)).bind f ∧ (∀ C, f (.ex C, ρ1) = some (.ex C, outl ρ1 0 dvs)) ∧ f (.o .nx, ρ1) = some (.ok (.d .none), outl ρ1 0 dvs) ∧ (∀ d, f (.o (.rt (.d d)), ρ1) = some (.ok (.d d), outl ρ1 0 dvs)) ∧ (∀ d, f (.o (.rt (.nl d)), ρ1) = some (.ok (.nl d), outl ρ1 0 dvs))
      ∧ (∀ C fs, f (.o (.rt (.ob C fs)), ρ1) = some (.ok (.ob C fs), outl ρ1 0 dvs)) ∧ (∀ i o, ρ1[i]? = some (.own o) → f (.o (.rt (.al i)), ρ1) = some (.ok (.nl o), outl ρ1 0 dvs)) ∧ (∀ i o, ρ1[i]? = some (.v o) → f (.o (.rt (.al i)), ρ1) = some (.ok (.d o), outl ρ1 0 dvs)) := by
    unfold mFnX
    rw [if_pos ⟨hl, hp⟩, ← outs_outl]
    exact ⟨_, rfl, fun _ => rfl, rfl, fun _ => rfl, fun _ => rfl, fun _ _ => rfl, fun i o h => by dsimp only; rw [h], fun i o h => by dsimp only; rw [h]⟩
  obtain ⟨f, h0, h1, h2, h3, h4, h5, h6, h7⟩ := u
  cases o with
  | ex C => exact ⟨_, _, go _ ⟨f, h0, h1 C⟩, q⟩
  | o o =>
    cases o with
    | nx => exact ⟨_, _, go _ ⟨f, h0, h2⟩, q⟩
    | bk => exact q.elim
    | ct => exact q.elim
    | rt r =>
      cases r with
      | d d => exact ⟨_, _, go _ ⟨f, h0, h3 d⟩, q⟩
      | nl d => exact ⟨_, _, go _ ⟨f, h0, h4 d⟩, q⟩
      | ob C fs => exact ⟨_, _, go _ ⟨f, h0, h5 C fs⟩, q⟩
      | al i =>
        have q : (match ρ1[i]? with
          | some (.own o) => QE (.ok (.nl o)) (outl ρ1 0 dvs)
          | some (.v d) => QE (.ok (.d d)) (outl ρ1 0 dvs)
          | _ => False) := q
        split at q
        · rename_i o h
          exact ⟨_, _, go _ ⟨f, h0, h6 i o h⟩, q⟩
        · rename_i o h
          exact ⟨_, _, go _ ⟨f, h0, h7 i o h⟩, q⟩
        · exact q.elim
/-! ### the try -/
def notAl : Out → Bool
  | .rt (.al _) => false
  | _ => true
def tend (i : Nat) (QO : Out → Ev → Prop) (o : Out) (ρ2 : Ev) : Prop := (noBrw ρ2[i]? = true ∧ notAl o = true) ∧ QO o (ρ2.set i .un)
theorem te_ok {ρ2 ρ3 : Ev} {i : Nat} {QO : Out → Ev → Prop} {o : Out} (h1 : noBrw ρ2[i]? = true) (h2 : notAl o = true) (e : ρ2.set i .un = ρ3) (q : QO o ρ3) : tend i QO o ρ2 := by
  subst e
  exact ⟨⟨h1, h2⟩, q⟩
theorem g_tend {ρ2 : Ev} {i : Nat} {QO : Out → Ev → Prop} {o : Out} (h : tend i QO o ρ2) : tend i QO o ρ2 := h
def tryq (i : Nat) (tbl : List (Str × Bool)) (msu : Str → MS) (QO : Out → Ev → Prop) (o : OX) (ρ : Ev) : Prop := match o with
  | .o o => QO o ρ
  | .ex C => (tbl.lookup C = some true ∧ noBrw ρ[i]? = true ∧ i < ρ.length) ∧ wp (msu C) (ρ.set i .un) (tend i QO)
variable {tbl : List (Str × Bool)} {msu : Str → MS} {QO : Out → Ev → Prop}
theorem tr_o (q : QO o ρ) : tryq i tbl msu QO (.o o) ρ := q
theorem tr_ex (h1 : tbl.lookup C = some true) (h2 : noBrw ρ[i]? = true) (h3 : Nat.blt i ρ.length = true) (e : ρ.set i .un = ρ1) (q : wp (msu C) ρ1 (tend i QO)) : tryq i tbl msu QO (.ex C) ρ := by
  subst e
  exact ⟨⟨h1, h2, by simpa [Nat.blt_eq] using h3⟩, q⟩
theorem g_tryq {o : OX} (h : tryq i tbl msu QO o ρ) : tryq i tbl msu QO o ρ := h
theorem wx_try (h : wp a ρ (tryq i tbl msu QO)) : wp (mTryAs i tbl a msu) ρ QO := by
  obtain ⟨o, ρ1, e, q⟩ := h
  cases o with
  | o o => exact ⟨o, ρ1, by unfold mTryAs; rw [e]; rfl, q⟩
  | ex C =>
    obtain ⟨hc, o2, ρ2, e2, ⟨h1, h2⟩, q⟩ := q
    refine ⟨o2, _, ?_, q⟩
    unfold mTryAs
    rw [e]
    show (if tbl.lookup C = some true ∧ noBrw ρ1[i]? = true ∧ i < ρ1.length then _ else _) = _
    rw [if_pos hc, e2]
    show (if noBrw ρ2[i]? = true then _ else _) = _
    rw [if_pos h1]
    cases o2 with
    | rt r => cases r <;> first | rfl | cases h2
    | _ => rfl
theorem w_isE {b0 : Bool} {Qe : RV → Ev → Prop} (h : tbl.lookup C = some b0) (q : Qe (.d (.bool b0)) ρ) : wp (mIsE tbl C) ρ Qe := ⟨.d (.bool b0), ρ, by unfold mIsE; rw [h], q⟩
end
end PL

/-! V0j: a comprehension over a slot's own list, as a step. -/
namespace PL
open PySem PySem.Spec PyProof.Rows L2
variable [TheW]
theorem eqDs_strs : ∀ ss : List Str, eqDs (ss.map PyData.str) (ss.map PyData.str) = true
  | [] => by unfold eqDs; rfl
  | s :: ss => by
    show eqDs (PyData.str s :: ss.map PyData.str) (PyData.str s :: ss.map PyData.str) = true
    unfold eqDs
    rw [eqDs_strs ss]
    unfold eqD
    simp
theorem slotB_of {ρ : Ev} {j : Nat} {items : List D} (h : ρ[j]? = some (.own (.L items))) (hi : eqDs items items = true) : slotB ρ j items = true := by
  unfold slotB
  rw [h]
  exact hi
theorem w_lcO {ρ : Ev} {j : Nat} {items : List D} {g : MG} {t : MT} {m : MD} {vs : List Nat} {Q : RV → Ev → Prop} (h : ρ[j]? = some (.own (.L items))) (hf : freeE ρ vs = true) (hj : j ∉ vs) (hi : eqDs items items = true) (k : lcv (gO j items g) t m vs items ρ fun r ρ' => SlotIs ρ' j items ∧ Q r ρ') : wp (mLcO j g t m vs) ρ Q := by
  obtain ⟨acc, ρ2, e, hs, q⟩ := k
  refine ⟨_, _, ?_, q⟩
  unfold mLcO
  rw [h]
  dsimp only
  rw [if_pos ⟨hf, hj⟩, e, Option.bind_some]
  dsimp only
  rw [if_pos (slotB_of hs hi)]
theorem tg_own {ρ : Ev} {j : Nat} {items : List D} {g : MG} {d : D} {K : Ev → Prop} (h : ρ[j]? = some (.own (.L items))) (hi : eqDs items items = true) (k : tg1 g d ρ K) : tg1 (gO j items g) d ρ K := by
  obtain ⟨ρ1, e, k⟩ := k
  refine ⟨ρ1, ?_, k⟩
  unfold gO
  rw [if_pos (slotB_of h hi)]
  exact e
end PL

namespace PK
open PySem PySem.Spec PyProof.Rows L2 PL
variable [TheW]
local macro_rules | `(tactic| infer_instance) => `(tactic| dsimp only)
local macro_rules | `(tactic| infer_instance) => `(tactic| with_reducible refine if_t ?_)
local macro_rules | `(tactic| infer_instance) => `(tactic| with_reducible refine if_f ?_)
local macro_rules | `(tactic| infer_instance) => `(tactic| with_reducible refine w_seq ?_)
local macro_rules | `(tactic| infer_instance) => `(tactic| with_reducible refine w_nx ?_)
local macro_rules | `(tactic| infer_instance) => `(tactic| with_reducible refine w_bk ?_)
local macro_rules | `(tactic| infer_instance) => `(tactic| with_reducible refine w_ct ?_)
local macro_rules | `(tactic| infer_instance) => `(tactic| with_reducible refine w_drop ?_)
local macro_rules | `(tactic| infer_instance) => `(tactic| with_reducible refine w_ret ?_)
local macro_rules | `(tactic| infer_instance) => `(tactic| with_reducible refine w_retN ?_)
local macro_rules | `(tactic| infer_instance) => `(tactic| with_reducible refine w_ifS ?_)
local macro_rules | `(tactic| infer_instance) => `(tactic| with_reducible refine w_set ?_)
local macro_rules | `(tactic| infer_instance) => `(tactic| with_reducible refine w_asg ?_)
local macro_rules | `(tactic| infer_instance) => `(tactic| (with_reducible refine w_put ?_))
local macro_rules | `(tactic| infer_instance) => `(tactic| with_reducible refine w_F ?_)
local macro_rules | `(tactic| infer_instance) => `(tactic| with_reducible refine w_dnil ?_)
local macro_rules | `(tactic| infer_instance) => `(tactic| with_reducible refine w_dcons ?_)
local macro_rules | `(tactic| infer_instance) => `(tactic| with_reducible refine w_anil ?_)
local macro_rules | `(tactic| infer_instance) => `(tactic| with_reducible refine w_acons ?_)
local macro_rules | `(tactic| infer_instance) => `(tactic| with_reducible refine w_callN ?_)
local macro_rules | `(tactic| infer_instance) => `(tactic| with_reducible refine w_m1 ?_)
local macro_rules | `(tactic| infer_instance) => `(tactic| with_reducible refine w_m2 ?_)
local macro_rules | `(tactic| infer_instance) => `(tactic| with_reducible refine w_c ?_)
local macro_rules | `(tactic| infer_instance) => `(tactic| with_reducible refine w_B ?_)
local macro_rules | `(tactic| infer_instance) => `(tactic| with_reducible refine ⟨_, rfl, ?_⟩)
local macro_rules | `(tactic| infer_instance) => `(tactic| with_reducible refine w_And ?_)
local macro_rules | `(tactic| infer_instance) => `(tactic| with_reducible refine w_Or ?_)
local macro_rules | `(tactic| infer_instance) => `(tactic| with_reducible refine w_Not ?_)
local macro_rules | `(tactic| infer_instance) => `(tactic| with_reducible refine w_If ?_)
local macro_rules | `(tactic| infer_instance) => `(tactic| with_reducible refine w_lst ?_)
local macro_rules | `(tactic| infer_instance) => `(tactic| with_reducible refine w_tup ?_)
local macro_rules | `(tactic| infer_instance) => `(tactic| with_reducible refine w_var (by with_unfolding_all rfl) ?_)
local macro_rules | `(tactic| infer_instance) => `(tactic| with_reducible refine w_varO (by with_unfolding_all rfl) ?_)
local macro_rules | `(tactic| infer_instance) => `(tactic| with_reducible refine w_varB (by with_unfolding_all rfl) ?_)
local macro_rules | `(tactic| infer_instance) => `(tactic| with_reducible refine lk_d ?_)
local macro_rules | `(tactic| infer_instance) => `(tactic| with_reducible refine lk_nlL ?_)
local macro_rules | `(tactic| infer_instance) => `(tactic| with_reducible refine lk_ownL (by with_unfolding_all rfl) ?_)
local macro_rules | `(tactic| infer_instance) => `(tactic| with_reducible refine lk_brwL (by with_unfolding_all rfl) ?_)
local macro_rules | `(tactic| infer_instance) => `(tactic| with_reducible refine fz_d' ?_)
local macro_rules | `(tactic| infer_instance) => `(tactic| with_reducible refine fz_nlL' ?_)
local macro_rules | `(tactic| infer_instance) => `(tactic| with_reducible refine fz_ownL' (by with_unfolding_all rfl) ?_)
local macro_rules | `(tactic| infer_instance) => `(tactic| with_reducible refine sto_d (by with_unfolding_all rfl) ?_)
local macro_rules | `(tactic| infer_instance) => `(tactic| with_reducible refine sto_nl (by with_unfolding_all rfl) ?_)
local macro_rules | `(tactic| infer_instance) => `(tactic| with_reducible refine o_addI ?_)
local macro_rules | `(tactic| infer_instance) => `(tactic| with_reducible refine o_sub ?_)
local macro_rules | `(tactic| infer_instance) => `(tactic| with_reducible refine o_lt ?_)
local macro_rules | `(tactic| infer_instance) => `(tactic| with_reducible refine o_le ?_)
local macro_rules | `(tactic| infer_instance) => `(tactic| with_reducible refine o_gt ?_)
local macro_rules | `(tactic| infer_instance) => `(tactic| with_reducible refine o_ge ?_)
local macro_rules | `(tactic| infer_instance) => `(tactic| with_reducible refine o_ixL (by with_unfolding_all rfl) ?_)
local macro_rules | `(tactic| infer_instance) => `(tactic| with_reducible refine o_ixT (by with_unfolding_all rfl) ?_)
local macro_rules | `(tactic| infer_instance) => `(tactic| with_reducible refine o_pow (by with_unfolding_all decide) ?_)
local macro_rules | `(tactic| infer_instance) => `(tactic| with_reducible refine o_mod (by with_unfolding_all decide) ?_)
local macro_rules | `(tactic| infer_instance) => `(tactic| with_reducible refine l_nil ?_)
local macro_rules | `(tactic| infer_instance) => `(tactic| with_reducible refine l_cons ?_)
local macro_rules | `(tactic| infer_instance) => `(tactic| with_reducible refine n_lenL ?_)
local macro_rules | `(tactic| infer_instance) => `(tactic| with_reducible refine n_lenT ?_)
local macro_rules | `(tactic| infer_instance) => `(tactic| with_reducible refine n_intI ?_)
local macro_rules | `(tactic| infer_instance) => `(tactic| with_reducible refine n_intB ?_)
local macro_rules | `(tactic| infer_instance) => `(tactic| with_reducible refine n_max2 ?_)
local macro_rules | `(tactic| infer_instance) => `(tactic| with_reducible refine n_min2 ?_)

local macro_rules | `(tactic| infer_instance) => `(tactic| with_reducible refine ⟨_, by with_unfolding_all rfl, ?_⟩)
local macro_rules | `(tactic| infer_instance) => `(tactic| with_reducible refine put_ok (by with_unfolding_all rfl) (by with_unfolding_all rfl) ?_)
local macro_rules | `(tactic| infer_instance) => `(tactic| with_reducible refine tg_ok (by with_unfolding_all rfl) ?_)
local macro_rules | `(tactic| infer_instance) => `(tactic| with_reducible refine w_for ?_)
local macro_rules | `(tactic| infer_instance) => `(tactic| with_reducible refine w_range1 ?_)
local macro_rules | `(tactic| infer_instance) => `(tactic| with_reducible refine w_range2 ?_)
local macro_rules | `(tactic| infer_instance) => `(tactic| with_reducible refine w_seqI ?_)
local macro_rules | `(tactic| infer_instance) => `(tactic| with_reducible refine w_par2 ?_)
local macro_rules | `(tactic| infer_instance) => `(tactic| with_reducible refine w_par3 ?_)
local macro_rules | `(tactic| infer_instance) => `(tactic| with_reducible refine w_parN ?_)
local macro_rules | `(tactic| infer_instance) => `(tactic| with_reducible refine w_sl ?_)
local macro_rules | `(tactic| infer_instance) => `(tactic| with_reducible refine w_oN ?_)
local macro_rules | `(tactic| infer_instance) => `(tactic| with_reducible refine w_oS ?_)
local macro_rules | `(tactic| infer_instance) => `(tactic| with_reducible refine n_lstL ?_)
local macro_rules | `(tactic| infer_instance) => `(tactic| with_reducible refine n_lstT ?_)
local macro_rules | `(tactic| infer_instance) => `(tactic| with_reducible refine n_tupL ?_)
local macro_rules | `(tactic| infer_instance) => `(tactic| with_reducible refine n_tupT ?_)
local macro_rules | `(tactic| infer_instance) => `(tactic| with_reducible refine w_AndV ?_)
local macro_rules | `(tactic| infer_instance) => `(tactic| with_reducible refine w_OrV ?_)
local macro_rules | `(tactic| infer_instance) => `(tactic| with_reducible refine w_NotV ?_)
local macro_rules | `(tactic| infer_instance) => `(tactic| with_reducible refine ⟨_, _, rfl, by with_unfolding_all rfl, ?_⟩)
local macro_rules | `(tactic| infer_instance) => `(tactic| with_reducible refine ⟨_, _, _, rfl, ⟨by with_unfolding_all rfl, by with_unfolding_all rfl, by with_unfolding_all rfl⟩, ?_⟩)
local macro_rules | `(tactic| infer_instance) => `(tactic| with_reducible refine ⟨of_decide_eq_true (by with_unfolding_all rfl), ?_⟩)
local macro_rules | `(tactic| infer_instance) => `(tactic| with_reducible refine sq_L ?_)
local macro_rules | `(tactic| infer_instance) => `(tactic| with_reducible refine sq_T ?_)
local macro_rules | `(tactic| infer_instance) => `(tactic| with_reducible refine sq_S ?_)
local macro_rules | `(tactic| infer_instance) => `(tactic| with_reducible refine o_eqS ?_)
local macro_rules | `(tactic| infer_instance) => `(tactic| with_reducible refine o_neS ?_)
local macro_rules | `(tactic| infer_instance) => `(tactic| with_reducible refine o_eqI ?_)
local macro_rules | `(tactic| infer_instance) => `(tactic| with_reducible refine o_neI ?_)
local macro_rules | `(tactic| infer_instance) => `(tactic| with_reducible refine o_inSS ?_)
local macro_rules | `(tactic| infer_instance) => `(tactic| with_reducible refine o_notinSS ?_)
/-- the feed after some draws: at most n of them -/
structure FeedOk (n : Nat) (a b c : Int) : Prop where
  a0 : 0 ≤ a
  b0 : 0 ≤ b
  b1 : b < 10 ^ 39 + 23
  c0 : 0 ≤ c
  c1 : c ≤ n
abbrev fd (a b c : Int) : OC := .L [.int a, .int b, .int c]
theorem e_draw {n : Nat} {a b c m : Int} (F : FeedOk n a b c) (hn : n < 10 ^ 9) (h1 : 0 < m) (h2 : m < 2 ^ 62) {Q : RV → Ev → Prop}
    (k : ∀ r a' b' c', FeedOk (n + 1) a' b' c' → 0 ≤ r → r < m → Q (.d (.int r)) [.brw (fd a' b' c'), .v (.int m)]) : wp fm__law_draw [.brw (fd a b c), .v (.int m)] Q := by
  refine w_fn rfl rfl ?_
  unfold ms__law_draw
  repeat infer_instance
  obtain ⟨F1, F2, F3, F4, F5⟩ := F
  refine if_d (fun ha => ?_) (fun ha => ?_)
  · repeat infer_instance
    refine o_div (divW_of h1 h2) ?_
    repeat infer_instance
    refine o_mul (.inl (.inr ⟨by omega, by omega⟩)) ?_
    repeat infer_instance
    have e := Int.emod_add_mul_ediv a m
    have e2 := Int.emod_nonneg a (show m ≠ 0 by omega)
    have e3 := Int.emod_lt_of_pos a h1
    have e4 : a / m * m = m * (a / m) := Int.mul_comm _ _
    refine k (a - a / m * m) (a / m) b c ⟨Int.ediv_nonneg F1 (Int.le_of_lt h1), F2, F3, F4, by omega⟩ (by omega) (by omega)
  · repeat infer_instance
    refine o_mul (.inl (.inl ⟨by decide, by decide⟩)) ?_
    repeat infer_instance
    have s0 : 0 ≤ b + 6700417 * (c + 1) := by omega
    have s1 : b + 6700417 * (c + 1) < 2 ^ 131 := by
      have : (10 : Int) ^ 39 + 23 + 6700417 * (10 ^ 9 + 1) < 2 ^ 131 := by decide
      omega
    generalize b + 6700417 * (c + 1) = s at s0 s1 ⊢
    refine o_mul (mulW_of s0 s1 s0 s1 (by decide) (by decide) (by decide)) ?_
    repeat infer_instance
    obtain ⟨t0, t1⟩ := mul_lt_pow s0 s1 s0 s1
    refine o_mul (mulW_of t0 t1 s0 s1 (by decide) (by decide) (by decide)) ?_
    repeat infer_instance
    refine o_mul (.inl (.inl ⟨by decide, by decide⟩)) ?_
    repeat infer_instance
    have u0 := Int.emod_nonneg (s * s * s + 15485863 * (c + 1)) (show (10 : Int) ^ Int.toNat 43 + 57 ≠ 0 by decide)
    have u1 := Int.emod_lt_of_pos (s * s * s + 15485863 * (c + 1)) (show 0 < (10 : Int) ^ Int.toNat 43 + 57 by decide)
    have u2 : (10 : Int) ^ Int.toNat 43 + 57 < 2 ^ 150 := by decide
    generalize (s * s * s + 15485863 * (c + 1)) % ((10 : Int) ^ Int.toNat 43 + 57) = v at u0 u1 ⊢
    refine o_mul (mulW_of (p := 150) (q := 150) u0 (by omega) u0 (by omega) (by decide) (by decide) (by decide)) ?_
    repeat infer_instance
    have v0 := Int.emod_nonneg (v * v + 32452843) (show (10 : Int) ^ Int.toNat 38 + 133 ≠ 0 by decide)
    generalize (v * v + 32452843) % ((10 : Int) ^ Int.toNat 38 + 133) = z at v0 ⊢
    refine o_div ⟨by decide, by decide⟩ ?_
    repeat infer_instance
    refine o_mod h1 ?_
    repeat infer_instance
    exact k _ a b (c + 1) ⟨F1, F2, F3, by omega, by omega⟩ (Int.emod_nonneg _ (by omega)) (Int.emod_lt_of_pos _ h1)

/-- a slot that holds these things -/
inductive Has : DV → List D → Prop where
  | vl (ds : List D) : Has (.v (.list ds)) ds
  | vt (ds : List D) : Has (.v (.tuple ds)) ds
  | br (ds : List D) : Has (.brw (.L ds)) ds
theorem e_one {n : Nat} {a b c : Int} {s : DV} {ds : List D} (F : FeedOk n a b c) (hn : n < 10 ^ 9) (hs : Has s ds) (h1 : 0 < ds.length) (h2 : ds.length < 2 ^ 62) {Q : RV → Ev → Prop}
    (k : ∀ x a' b' c', x ∈ ds → FeedOk (n + 1) a' b' c' → Q (.d x) [.brw (fd a' b' c'), s]) : wp fm__law_one [.brw (fd a b c), s] Q := by
  refine w_fn rfl (by cases hs <;> rfl) ?_
  unfold ms__law_one
  cases hs
  all_goals
    repeat infer_instance
    refine w_call1 (i := 0) ?_
    repeat infer_instance
    refine e_draw F hn (by omega) (by omega) fun r a' b' c' F' r0 r1 => ⟨nofun, _, _, rfl, ?_⟩
    repeat infer_instance
    obtain ⟨x, e1, e2⟩ := at_int r0 r1
    first
      | refine o_ixL e1 ?_
      | refine o_ixT e1 ?_
    repeat infer_instance
    exact k x a' b' c' (List.mem_of_getElem? e2) F'
theorem perm_pop {α : Type} {pool got ds : List α} {j : Nat} {y : α} (h : (got ++ pool).Perm ds) (e : pool[j]? = some y) : ((got ++ [y]) ++ pool.eraseIdx j).Perm ds := by
  refine List.Perm.trans ?_ h
  rw [List.append_assoc]
  refine List.Perm.append_left got ?_
  show (y :: pool.eraseIdx j).Perm pool
  clear h
  induction pool generalizing j with
  | nil => simp at e
  | cons p pool ih =>
    cases j with
    | zero =>
      cases (show some p = some y by simpa using e)
      exact .refl _
    | succ j => exact (List.Perm.swap p y _).trans (List.Perm.cons p (ih (by simpa using e)))
theorem e_mixed {n : Nat} {a b c : Int} {s : DV} {ds : List D} (F : FeedOk n a b c) (hn : n + ds.length < 10 ^ 9) (hs : Has s ds) (h2 : ds.length < 2 ^ 20) {Q : RV → Ev → Prop}
    (k : ∀ xs a' b' c', xs.Perm ds → FeedOk (n + ds.length) a' b' c' → Q (.nl (.L xs)) [.brw (fd a' b' c'), s]) : wp fm__law_mixed [.brw (fd a b c), s] Q := by
  refine w_fn rfl (by cases hs <;> rfl) ?_
  unfold ms__law_mixed
  have zl : ds.length ≤ sizeLine := by rw [sizeLine_eq]; omega
  have e2 : (rangeD 0 (ds.length : Int).toNat).length = ds.length := by simp [rangeD]
  obtain ⟨s0, hs0⟩ : ∃ s0, s0 = s := ⟨s, rfl⟩
  cases hs
  all_goals
    repeat infer_instance
    refine r1_of ⟨by omega, by omega⟩ ?_
    repeat infer_instance
    refine w_loop (fun j ρ => ∃ a b c pool got x, ρ = [.brw (fd a b c), s0, .own (.L pool), .own (.L got), x] ∧ noBrw (some x) = true ∧ FeedOk (n + j) a b c ∧ (got ++ pool).Perm ds ∧ got.length = j) _ 0 _ ?start ?_ ?_
    case start =>
      subst hs0
      exact ⟨a, b, c, ds, [], .un, rfl, rfl, F, .refl _, rfl⟩
    · rintro j d ρ hj ⟨a, b, c, pool, got, x, rfl, hx, F, pm, hl⟩
      subst hs0
      have hlt : j < ds.length := by
        have := (List.getElem?_eq_some_iff.mp hj).1
        omega
      have hpl : pool.length = ds.length - j := by
        have := pm.length_eq
        rw [List.length_append] at this
        omega
      refine ⟨_, show gN 4 d _ = some [_, _, _, _, .v d] from if_pos hx, ?_⟩
      repeat infer_instance
      refine w_mt (o0 := .L got) rfl rfl ?_
      repeat infer_instance
      refine w_mt (o0 := .L pool) rfl rfl ?_
      repeat infer_instance
      refine w_call1 (i := 0) ?_
      repeat infer_instance
      refine e_draw F (by omega) (by omega) (by omega) fun r a' b' c' F' r0 r1 => ⟨nofun, _, _, rfl, ?_⟩
      repeat infer_instance
      have rl : r.toNat < pool.length := by omega
      have ey := List.getElem?_eq_getElem rl
      refine mt_popAt' (by with_unfolding_all rfl) r0 r1 (by omega) ey ?_
      repeat infer_instance
      refine mt_app (by with_unfolding_all rfl) (by rw [sizeLine_eq]; omega) ?_
      repeat infer_instance
      exact ⟨a', b', c', pool.eraseIdx r.toNat, got ++ [pool[r.toNat]], _, by with_unfolding_all rfl, rfl, by rw [show n + (0 + j + 1) = n + (0 + j) + 1 by omega]; exact F', perm_pop pm ey, by rw [List.length_append, hl]; rfl⟩
    · rintro ρ ⟨a, b, c, pool, got, x, rfl, hx, F, pm, hl⟩
      subst hs0
      have hz : pool = [] := by
        have := pm.length_eq
        rw [List.length_append] at this
        exact List.length_eq_zero_iff.mp (by omega)
      subst hz
      repeat infer_instance
      refine k got a b c (by simpa using pm) ?_
      rw [e2] at F
      simpa using F

theorem map_at {ns : List Int} {i : Nat} {x : D} (h : (ns.map PyData.int)[i]? = some x) : ∃ y, x = .int y := by
  rw [List.getElem?_map] at h
  obtain ⟨y, _, rfl⟩ := Option.map_eq_some_iff.mp h
  exact ⟨y, rfl⟩
theorem e_feed {ns : List Int} {k : Int} (hl : ns.length ≤ 63) (k0 : 0 ≤ k) (k1 : k < 2 ^ 40) {Q : RV → Ev → Prop}
    (h : ∀ a b c, FeedOk 0 a b c → Q (.nl (fd a b c)) [.v (.list (ns.map .int)), .v (.int k)]) : wp fm__law_feed [.v (.list (ns.map .int)), .v (.int k)] Q := by
  have fin : ∀ x : Int, FeedOk 0 (max 0 (x - 10 ^ Int.toNat 18)) ((x * 19 + 7 * k) % (10 ^ Int.toNat 39 + 23)) 0 := fun x => by
    have e1 := Int.emod_nonneg (x * 19 + 7 * k) (show (10 : Int) ^ Int.toNat 39 + 23 ≠ 0 by decide)
    have e2 := Int.emod_lt_of_pos (x * 19 + 7 * k) (show 0 < (10 : Int) ^ Int.toNat 39 + 23 by decide)
    exact ⟨by omega, e1, e2, by omega, by omega⟩
  refine w_fn rfl rfl ?_
  unfold ms__law_feed
  repeat infer_instance
  refine o_mul (.inl (.inl ⟨by decide, by decide⟩)) ?_
  repeat infer_instance
  refine ⟨RV.nl (.L ((ns.take 1).map .int)), ?_, ?_⟩
  · show some (RV.nl (.L (PL.cutD (ns.map PyData.int) none (some 1)))) = _
    have : PL.cutD (ns.map PyData.int) none (some 1) = (ns.take 1).map PyData.int := by
      unfold PL.cutD HT.sIx
      cases ns with
      | nil => rfl
      | cons n ns =>
        simp
    rw [this]
  repeat infer_instance
  refine n_sum ?_
  repeat infer_instance
  rw [List.length_map]
  refine if_d (fun hk => ?_) (fun hk => ?_)
  · repeat infer_instance
    obtain ⟨x, e1, e2⟩ := at_int (xs := ns.map PyData.int) k0 (by rw [List.length_map]; exact hk)
    obtain ⟨y, rfl⟩ := map_at e2
    refine o_ixL e1 ?_
    repeat infer_instance
    refine o_mul (.inl (.inr ⟨by decide, by decide⟩)) ?_
    repeat infer_instance
    refine o_mul (.inl (.inl ⟨by decide, by decide⟩)) ?_
    repeat infer_instance
    exact h _ _ _ (fin y)
  · repeat infer_instance
    refine o_mul (.inl (.inr ⟨by decide, by decide⟩)) ?_
    repeat infer_instance
    refine o_mul (.inl (.inl ⟨by decide, by decide⟩)) ?_
    repeat infer_instance
    exact h _ _ _ (fin _)
/-- the names that webs are made of -/
def pool12 : List Str := ["a", "b10", "b", "zz", "a1", "q1w2e3r4", "b9", "x", "m0", "road", "k", "a1b"]
def unS : D → Str
  | .str z => z
  | _ => Str.empty
theorem e_names {n : Nat} {a b c m : Int} (F : FeedOk n a b c) (hn : n + 12 < 10 ^ 9) (m0 : 0 ≤ m) (m1 : m ≤ 12) {Q : RV → Ev → Prop}
    (k : ∀ (zs : List Str) (a' b' c' : Int), zs.length = m.toNat → zs.Nodup → (∀ z ∈ zs, z ∈ pool12) → FeedOk (n + 12) a' b' c' → Q (.nl (.L (zs.map .str))) [.brw (fd a' b' c'), .v (.int m)]) : wp fm__law_names [.brw (fd a b c), .v (.int m)] Q := by
  refine w_fn rfl rfl ?_
  unfold ms__law_names
  repeat infer_instance
  refine w_call1 (i := 0) ?_
  repeat infer_instance
  have hp : ∀ xs : List D, xs.Perm (pool12.map PyData.str) → xs = (xs.map unS).map PyData.str ∧ (xs.map unS).Perm pool12 := fun xs h => by
    refine ⟨?_, ?_⟩
    · rw [List.map_map]
      conv => lhs; rw [← List.map_id xs]
      refine List.map_congr_left fun x hx => ?_
      obtain ⟨z, _, rfl⟩ := List.mem_map.mp (h.mem_iff.mp hx)
      rfl
    · have := h.map unS
      rw [List.map_map] at this
      have e : (unS ∘ PyData.str) = id := rfl
      rw [e, List.map_id] at this
      exact this
  refine e_mixed (ds := pool12.map PyData.str) F (by simpa [pool12] using hn) (.br _) (by decide) fun xs a' b' c' pm F' => ⟨nofun, _, _, rfl, ?_⟩
  obtain ⟨e1, e2⟩ := hp xs pm
  repeat infer_instance
  have hlen : xs.length = 12 := by rw [pm.length_eq]; rfl
  have hcut : PL.cutD xs none (some m) = ((xs.map unS).take m.toNat).map PyData.str := by
    rw [List.map_take, ← e1]
    unfold PL.cutD HT.sIx
    rw [hlen]
    have : ¬ m < 0 := by omega
    simp only [this, if_false]
    rw [List.drop_zero]
    congr 1
    omega
  refine ⟨RV.nl (.L (((xs.map unS).take m.toNat).map .str)), ?_, ?_⟩
  · show some (RV.nl (.L (PL.cutD xs none (some m)))) = _
    rw [hcut]
  repeat infer_instance
  have nd : pool12.Nodup := by decide +kernel
  refine k ((xs.map unS).take m.toNat) a' b' c' ?_ (List.Nodup.sublist (List.take_sublist _ _) (e2.nodup_iff.mpr nd)) (fun z hz => e2.mem_iff.mp (List.mem_of_mem_take hz)) (by simpa [pool12] using F')
  rw [List.length_take, List.length_map, hlen]
  omega

theorem FeedOk.mono {n m : Nat} {a b c : Int} (F : FeedOk n a b c) (h : n ≤ m) : FeedOk m a b c := ⟨F.a0, F.b0, F.b1, F.c0, by have := F.c1; omega⟩
theorem if_b {b : Bool} {α : Prop} {β : Prop} (h1 : b = true → α) (h2 : b = false → β) : if b = true then α else β := by
  cases b with
  | true => exact h1 rfl
  | false => exact h2 rfl
theorem rangeD_get {m : Int} {n j : Nat} {d : D} (h : (rangeD m n)[j]? = some d) : d = .int (m + j) ∧ j < n := by
  unfold rangeD at h
  rw [List.getElem?_map] at h
  obtain ⟨y, e, rfl⟩ := Option.map_eq_some_iff.mp h
  obtain ⟨h1, h2⟩ := List.getElem?_eq_some_iff.mp e
  rw [List.getElem_range] at h2
  subst h2
  exact ⟨rfl, by simpa using h1⟩
theorem rangeD_len (m : Int) (n : Nat) : (rangeD m n).length = n := by simp [rangeD]
/-- the pairs so far -/
structure PsOk (ring : Bool) (lim : Int) (most : Nat) (ps : List (Int × Int)) : Prop where
  nd : ps.Nodup
  ok : ∀ p ∈ ps, 0 ≤ p.1 ∧ p.1 < p.2 ∧ p.2 < lim
  rg : ring = true → ∀ p ∈ ps, p.1 + 1 = p.2
  ln : ps.length ≤ most
theorem PsOk.nil {ring : Bool} {lim : Int} {most : Nat} : PsOk ring lim most [] := ⟨.nil, nofun, fun _ => nofun, Nat.zero_le _⟩
theorem PsOk.more {ring : Bool} {lim lim' : Int} {most most' : Nat} {ps : List (Int × Int)} (h : PsOk ring lim most ps) (h1 : lim ≤ lim') (h2 : most ≤ most') : PsOk ring lim' most' ps :=
  ⟨h.nd, fun p hp => by have := h.ok p hp; omega, h.rg, Nat.le_trans h.ln h2⟩
theorem PsOk.snoc {ring : Bool} {lim : Int} {most : Nat} {ps : List (Int × Int)} {p : Int × Int} (h : PsOk ring lim most ps) (hp : p ∉ ps) (h1 : 0 ≤ p.1 ∧ p.1 < p.2 ∧ p.2 < lim) (h2 : ring = true → p.1 + 1 = p.2) : PsOk ring lim (most + 1) (ps ++ [p]) := by
  refine ⟨?_, ?_, ?_, ?_⟩
  · rw [List.nodup_append]
    refine ⟨h.nd, by simp, ?_⟩
    rintro x hx y hy rfl
    exact hp (by simpa using (List.mem_singleton.mp hy) ▸ hx)
  · intro q hq
    rcases List.mem_append.mp hq with hq | hq
    · exact h.ok q hq
    · rw [List.mem_singleton.mp hq]; exact h1
  · intro hr q hq
    rcases List.mem_append.mp hq with hq | hq
    · exact h.rg hr q hq
    · rw [List.mem_singleton.mp hq]; exact h2 hr
  · rw [List.length_append]
    have := h.ln
    simp
    omega
theorem snoc_pD (ps : List (Int × Int)) (a b : Int) : ps.map pD ++ [.tuple [.int a, .int b]] = (ps ++ [(a, b)]).map pD := by
  rw [List.map_append]
  rfl
/-- the pairs of a web: the first half of _law_web -/
theorem e_many {n : Nat} {a b c most : Int} {way : Str} (F : FeedOk n a b c) (hn : n + 1000 < 10 ^ 9) (m0 : 1 ≤ most) (m1 : most ≤ 8) (hw : PyData.strOk way = true) {xs : Ev} {Q : RV → Ev → Prop}
    (k : ∀ (many : Int) (a' b' c' : Int), 1 ≤ many → many ≤ max 3 most → (way = "ring" → 3 ≤ many) → FeedOk (n + 1) a' b' c' → Q (.d (.int many)) (.brw (fd a' b' c') :: .v (.str way) :: .v (.int most) :: xs)) :
    wp (mIf (mB (m2 gEq (mVar 1) (mC (.str "ring")))) (mCallN gMax2 (mACons (mC (.int 3)) (mACons (m2 gAdd (mC (.int 1)) (mCall fm__law_draw (mACons (mVar 0) (mACons (mVar 2) mANil)))) mANil))) (m2 gAdd (mC (.int 1)) (mCall fm__law_draw (mACons (mVar 0) (mACons (mVar 2) mANil)))))
      (.brw (fd a b c) :: .v (.str way) :: .v (.int most) :: xs) Q := by
  repeat infer_instance
  refine if_b (fun h => ?_) (fun h => ?_)
  all_goals
    repeat infer_instance
    refine w_call1 (i := 0) ?_
    repeat infer_instance
    refine e_draw F (by omega) (by omega) (by omega) fun r a' b' c' F' r0 r1 => ⟨nofun, _, _, rfl, ?_⟩
    repeat infer_instance
  · exact k _ _ _ _ (by omega) (by omega) (fun _ => by omega) F'
  · exact k _ _ _ _ (by omega) (by omega) (fun e => by subst e; exact absurd h (by decide)) F'
/-- one step of its first loop -/
theorem e_tree {n j : Nat} {a b c most many shape : Int} {way : Str} {x7 x8 x9 x10 x11 x12 x13 : DV} {ps : List (Int × Int)} (F : FeedOk n a b c) (hn : n + 1000 < 10 ^ 9) (hw : PyData.strOk way = true)
    (hx : noBrw (some x7) = true) (hj : j < 1000) (P : PsOk (decide (way = "ring")) (1 + j) j ps) {Q : Out → Ev → Prop}
    (k : ∀ (a' b' c' : Int) ps' y7, noBrw (some y7) = true → FeedOk (n + 2) a' b' c' → PsOk (decide (way = "ring")) (1 + (j + 1)) (j + 1) ps' → Q .nx [.brw (fd a' b' c'), .v (.str way), .v (.int most), .v (.int many), .own (.L (ps'.map pD)), .v (.int shape), .v (.int (1 + j)), y7, x8, x9, x10, x11, x12, x13]) :
    wp (mSeq (mSet 7 (mIf (mOr (mB (m2 gEq (mVar 5) (mC (.int 0)))) (mB (m2 gEq (mVar 1) (mC (.str "ring"))))) (m2 gSub (mVar 6) (mC (.int 1))) (mIf (mB (m2 gEq (mVar 5) (mC (.int 1)))) (mC (.int 0)) (mCall fm__law_draw (mACons (mVar 0) (mACons (mVar 6) mANil))))))
  (mIfS (mOr (mB (m2 gNe (mVar 1) (mC (.str "any")))) (mB (m2 gGt (mCall fm__law_draw (mACons (mVar 0) (mACons (mC (.int 5)) mANil))) (mC (.int 0))))) (mDrop (mMt "list" 4 gApp (mDsCons (mF (mTup (mDsCons (mF (mVar 7)) (mDsCons (mF (mVar 6)) mDsNil)))) mDsNil))) mNx))
      [.brw (fd a b c), .v (.str way), .v (.int most), .v (.int many), .own (.L (ps.map pD)), .v (.int shape), .v (.int (1 + j)), x7, x8, x9, x10, x11, x12, x13] Q := by
  refine w_seq ?_
  have mid : ∀ {Q : Out → Ev → Prop}, (∀ (a' b' c' : Int) (bk : Int), 0 ≤ bk → bk < 1 + j → (way = "ring" → bk = j) → FeedOk (n + 1) a' b' c' → Q .nx [.brw (fd a' b' c'), .v (.str way), .v (.int most), .v (.int many), .own (.L (ps.map pD)), .v (.int shape), .v (.int (1 + j)), .v (.int bk), x8, x9, x10, x11, x12, x13]) →
      wp (mSet 7 (mIf (mOr (mB (m2 gEq (mVar 5) (mC (.int 0)))) (mB (m2 gEq (mVar 1) (mC (.str "ring"))))) (m2 gSub (mVar 6) (mC (.int 1))) (mIf (mB (m2 gEq (mVar 5) (mC (.int 1)))) (mC (.int 0)) (mCall fm__law_draw (mACons (mVar 0) (mACons (mVar 6) mANil)))))) [.brw (fd a b c), .v (.str way), .v (.int most), .v (.int many), .own (.L (ps.map pD)), .v (.int shape), .v (.int (1 + j)), x7, x8, x9, x10, x11, x12, x13] Q := by
    intro Q k
    repeat infer_instance
    have other : way ≠ "ring" → ∀ {Q : RV → Ev → Prop}, (∀ (a' b' c' : Int) (bk : Int), 0 ≤ bk → bk < 1 + j → FeedOk (n + 1) a' b' c' → Q (.d (.int bk)) [.brw (fd a' b' c'), .v (.str way), .v (.int most), .v (.int many), .own (.L (ps.map pD)), .v (.int shape), .v (.int (1 + j)), x7, x8, x9, x10, x11, x12, x13]) →
        wp (mIf (mB (m2 gEq (mVar 5) (mC (.int 1)))) (mC (.int 0)) (mCall fm__law_draw (mACons (mVar 0) (mACons (mVar 6) mANil)))) [.brw (fd a b c), .v (.str way), .v (.int most), .v (.int many), .own (.L (ps.map pD)), .v (.int shape), .v (.int (1 + j)), x7, x8, x9, x10, x11, x12, x13] Q := by
      intro hne Q k
      repeat infer_instance
      refine if_b (fun h => ?_) (fun h => ?_)
      · repeat infer_instance
        exact k _ _ _ _ (by omega) (by omega) (F.mono (by omega))
      · refine w_call1 (i := 0) ?_
        repeat infer_instance
        refine e_draw F (by omega) (by omega) (by omega) fun r a' b' c' F' r0 r1 => ⟨nofun, _, _, rfl, ?_⟩
        repeat infer_instance
        exact k _ _ _ _ r0 r1 F'
    refine if_b (fun h => ?_) (fun h => ?_)
    · repeat infer_instance
      exact ⟨_, by unfold stE; simp [frz, hx]; rfl, k _ _ _ _ (by omega) (by omega) (fun _ => by omega) (F.mono (by omega))⟩
    · repeat infer_instance
      refine if_b (fun h2 => ?_) (fun h2 => ?_)
      · repeat infer_instance
        exact ⟨_, by unfold stE; simp [frz, hx]; rfl, k _ _ _ _ (by omega) (by omega) (fun _ => by omega) (F.mono (by omega))⟩
      · have hne : way ≠ "ring" := fun e => by subst e; exact absurd h2 (by decide)
        refine other hne fun a' b' c' bk b0 b1 F' => ?_
        exact ⟨_, by unfold stE; simp [frz, hx], k _ _ _ _ b0 b1 (fun e => absurd e hne) F'⟩
  refine mid fun a b c bk b0 b1 hbk F => ?_
  have hnew : (bk, (1 + j : Int)) ∉ ps := fun h => by
    have := (P.ok _ h).2.2
    dsimp only at this
    omega
  have P2 : PsOk (decide (way = "ring")) (1 + (j + 1)) (j + 1) (ps ++ [(bk, (1 + j : Int))]) := (P.more (by omega) (Nat.le_refl _)).snoc hnew ⟨b0, b1, by omega⟩ (fun e => by have := hbk (of_decide_eq_true e); dsimp only; omega)
  have P3 : PsOk (decide (way = "ring")) (1 + (j + 1)) (j + 1) ps := P.more (by omega) (by omega)
  have hl : (ps.map pD).length < sizeLine := by
    rw [List.length_map, sizeLine_eq]
    have := P.ln
    omega
  dsimp only
  repeat infer_instance
  refine if_b (fun h => ?_) (fun h => ?_)
  · repeat infer_instance
    refine w_mt (o0 := .L (ps.map pD)) rfl rfl ?_
    repeat infer_instance
    refine mt_app (by with_unfolding_all rfl) hl ?_
    repeat infer_instance
    rw [snoc_pD]
    exact k a b c _ _ rfl (F.mono (by omega)) P2
  · repeat infer_instance
    refine w_call1 (i := 0) ?_
    repeat infer_instance
    refine e_draw F (by omega) (by omega) (by omega) fun r a' b' c' F' r0 r1 => ⟨nofun, _, _, rfl, ?_⟩
    repeat infer_instance
    refine if_d (fun h => ?_) (fun h => ?_)
    · repeat infer_instance
      refine w_mt (o0 := .L (ps.map pD)) rfl rfl ?_
      repeat infer_instance
      refine mt_app (by with_unfolding_all rfl) hl ?_
      repeat infer_instance
      rw [snoc_pD]
      exact k a' b' c' _ _ rfl F' P2
    · repeat infer_instance
      exact k a' b' c' _ _ rfl F' P3

theorem shaped_pD (p : Int × Int) : SeqAt.shaped (pD p) = true := shaped_of (by simp [pD, PyData.canLay0, PyData.canLayAll0]) (by simp [pD, PyData.depth, PyData.depthAll])
/-- one step of the loop that adds roads -/
theorem e_more {n : Nat} {a b c most many shape turn : Int} {way : Str} {x6 x7 x9 x10 x11 x12 x13 : DV} {ps : List (Int × Int)} {q : Nat} (F : FeedOk n a b c) (hn : n + 1000 < 10 ^ 9) (m0 : 3 ≤ many) (m1 : many ≤ 8) (hq : q < 1000)
    (h9 : noBrw (some x9) = true) (h10 : noBrw (some x10) = true) (h11 : noBrw (some x11) = true) (P : PsOk false many q ps) {Q : Out → Ev → Prop}
    (k : ∀ (a' b' c' : Int) ps' y9 y10 y11, noBrw (some y9) = true → noBrw (some y10) = true → noBrw (some y11) = true → FeedOk (n + 2) a' b' c' → PsOk false many (q + 1) ps' → Q .nx [.brw (fd a' b' c'), .v (.str way), .v (.int most), .v (.int many), .own (.L (ps'.map pD)), .v (.int shape), x6, x7, .v (.int turn), y9, y10, y11, x12, x13]) :
    wp (mSeq (mSet 9 (mCall fm__law_draw (mACons (mVar 0) (mACons (mVar 3) mANil))))
  (mSeq (mSet 10 (m2 PL.gMod (mCallN gInt (mACons (m2 gAdd (m2 gAdd (mVar 9) (mC (.int 1))) (mCall fm__law_draw (mACons (mVar 0) (mACons (m2 PL.gSub (mVar 3) (mC (.int 1))) mANil)))) mANil)) (mVar 3)))
  (mSeq (mSet 11 (mTup (mDsCons (mF (mCallN gMin2 (mACons (mVar 9) (mACons (mVar 10) mANil)))) (mDsCons (mF (mCallN gMax2 (mACons (mVar 9) (mACons (mVar 10) mANil)))) mDsNil))))
  (mIfS (mB (m2 gNotIn (mVar 11) (mVar 4))) (mDrop (mMt "list" 4 gApp (mDsCons (mF (mVar 11)) mDsNil))) mNx))))
      [.brw (fd a b c), .v (.str way), .v (.int most), .v (.int many), .own (.L (ps.map pD)), .v (.int shape), x6, x7, .v (.int turn), x9, x10, x11, x12, x13] Q := by
  have hl : (ps.map pD).length < sizeLine := by
    rw [List.length_map, sizeLine_eq]
    have := P.ln
    omega
  repeat infer_instance
  refine w_call1 (i := 0) ?_
  repeat infer_instance
  refine e_draw F (by omega) (by omega) (by omega) fun r a b c F r0 r1 => ⟨nofun, _, _, rfl, ?_⟩
  try dsimp only
  refine sto_d (by exact h9) ?_
  repeat infer_instance
  refine w_call1 (i := 0) ?_
  repeat infer_instance
  refine e_draw F (by omega) (by omega) (by omega) fun r2 a b c F r20 r21 => ⟨nofun, _, _, rfl, ?_⟩
  repeat infer_instance
  refine o_mod (by omega) ?_
  try dsimp only
  refine sto_d (by exact h10) ?_
  have ho : 0 ≤ (r + 1 + r2) % many ∧ (r + 1 + r2) % many < many ∧ (r + 1 + r2) % many ≠ r := by
    have : many = 3 ∨ many = 4 ∨ many = 5 ∨ many = 6 ∨ many = 7 ∨ many = 8 := by omega
    rcases this with rfl | rfl | rfl | rfl | rfl | rfl <;> omega
  generalize (r + 1 + r2) % many = o at ho ⊢
  repeat infer_instance
  refine sto_d (by exact h11) ?_
  repeat infer_instance
  refine o_notinL (shaped_pD (min r o, max r o)) (shaped_list (flat_pD ps) (by decide)) ?_
  have e : ((ps.map pD).any fun z => PyData.eqv z (.tuple [.int (min r o), .int (max r o)])) = decide ((min r o, max r o) ∈ ps) := any_pD ps (min r o, max r o)
  rw [e]
  refine lk_d ⟨_, rfl, ?_⟩
  refine if_b (fun h => ?_) (fun h => ?_)
  · repeat infer_instance
    refine w_mt (o0 := .L (ps.map pD)) rfl rfl ?_
    repeat infer_instance
    refine mt_app (by with_unfolding_all rfl) hl ?_
    repeat infer_instance
    rw [snoc_pD]
    refine k a b c _ _ _ _ rfl rfl rfl F (P.snoc (by simpa using h) ⟨by dsimp only; omega, by dsimp only; omega, by dsimp only; omega⟩ nofun)
  · repeat infer_instance
    exact k a b c _ _ _ _ rfl rfl rfl F (P.more (Int.le_refl _) (by omega))
/-- pairs of texts as data -/
def sD (p : Str × Str) : D := .tuple [.str p.1, .str p.2]
def nmI (zs : List Str) (i : Int) : Str := (zs[i.toNat]?).getD Str.empty
theorem at_nm {zs : List Str} {i : Int} (h0 : 0 ≤ i) (h1 : i < zs.length) : atI (zs.map PyData.str) i = some (.str (nmI zs i)) ∧ nmI zs i ∈ zs := by
  obtain ⟨x, e1, e2⟩ := at_int (xs := zs.map PyData.str) h0 (by rw [List.length_map]; exact h1)
  rw [List.getElem?_map] at e2
  obtain ⟨y, e3, rfl⟩ := Option.map_eq_some_iff.mp e2
  have : nmI zs i = y := by unfold nmI; rw [e3]; rfl
  rw [this]
  exact ⟨e1, List.mem_of_getElem? e3⟩
theorem nm_inj {zs : List Str} (nd : zs.Nodup) {i j : Int} (h0 : 0 ≤ i) (h1 : i < zs.length) (g0 : 0 ≤ j) (g1 : j < zs.length) (e : nmI zs i = nmI zs j) : i = j := by
  have li : i.toNat < zs.length := by omega
  have lj : j.toNat < zs.length := by omega
  unfold nmI at e
  rw [List.getElem?_eq_getElem li, List.getElem?_eq_getElem lj] at e
  have P := List.pairwise_iff_getElem.mp nd
  rcases Int.lt_trichotomy i j with h | h | h
  · exact absurd e (P i.toNat j.toNat li lj (by omega))
  · exact h
  · exact absurd e.symm (P j.toNat i.toNat lj li (by omega))
/-- one step of the loop that names the roads -/
theorem e_road {n : Nat} {a b c many : Int} {x1 x2 x3 x4 x5 x6 x7 x8 x9 x10 x11 : DV} {zs : List Str} {rs : List (Str × Str)} {p : Int × Int} (F : FeedOk n a b c) (hn : n + 1000 < 10 ^ 9) (hr : rs.length < 1000)
    (hp : 0 ≤ p.1 ∧ p.1 < zs.length ∧ 0 ≤ p.2 ∧ p.2 < zs.length) {Q : Out → Ev → Prop}
    (k : ∀ (a' b' c' : Int) y, y = (nmI zs p.1, nmI zs p.2) ∨ y = (nmI zs p.2, nmI zs p.1) → FeedOk (n + 1) a' b' c' → Q .nx [.brw (fd a' b' c'), x1, x2, x3, x4, x5, x6, x7, x8, .v (.int p.1), .v (.int p.2), x11, .own (.L (zs.map .str)), .own (.L ((rs ++ [y]).map sD))]) :
    wp (mDrop (mMt "list" 13 gApp (mDsCons (mF (mIf (mB (m2 gEq (mCall fm__law_draw (mACons (mVar 0) (mACons (mC (.int 2)) mANil))) (mC (.int 0)))) (mTup (mDsCons (mF (m2 gIx (mVar 12) (mVar 9))) (mDsCons (mF (m2 gIx (mVar 12) (mVar 10))) mDsNil))) (mTup (mDsCons (mF (m2 gIx (mVar 12) (mVar 10))) (mDsCons (mF (m2 gIx (mVar 12) (mVar 9))) mDsNil))))) mDsNil)))
      [.brw (fd a b c), x1, x2, x3, x4, x5, x6, x7, x8, .v (.int p.1), .v (.int p.2), x11, .own (.L (zs.map .str)), .own (.L (rs.map sD))] Q := by
  obtain ⟨p0, p1, q0, q1⟩ := hp
  obtain ⟨e1, _⟩ := at_nm p0 p1
  obtain ⟨e2, _⟩ := at_nm q0 q1
  have hl : (rs.map sD).length < sizeLine := by rw [List.length_map, sizeLine_eq]; omega
  repeat infer_instance
  refine w_mt (o0 := .L (rs.map sD)) rfl rfl ?_
  repeat infer_instance
  refine w_call1 (i := 0) ?_
  repeat infer_instance
  refine e_draw F (by omega) (by omega) (by omega) fun r a b c F r0 r1 => ⟨nofun, _, _, rfl, ?_⟩
  repeat infer_instance
  have sn : ∀ y : Str × Str, rs.map sD ++ [.tuple [.str y.1, .str y.2]] = (rs ++ [y]).map sD := fun y => by rw [List.map_append]; rfl
  refine if_b (fun h => ?_) (fun h => ?_)
  · repeat infer_instance
    refine o_ixL e1 ?_
    repeat infer_instance
    refine o_ixL e2 ?_
    repeat infer_instance
    refine mt_app (by with_unfolding_all rfl) hl ?_
    repeat infer_instance
    have := k a b c _ (.inl rfl) F
    rw [← sn] at this
    exact this
  · repeat infer_instance
    refine o_ixL e2 ?_
    repeat infer_instance
    refine o_ixL e1 ?_
    repeat infer_instance
    refine mt_app (by with_unfolding_all rfl) hl ?_
    repeat infer_instance
    have := k a b c _ (.inr rfl) F
    rw [← sn] at this
    exact this

theorem perm_map {α β : Type} {f : α → β} {xs ys : List β} (h : xs.Perm ys) : ∀ ds : List α, ys = ds.map f → ∃ es : List α, xs = es.map f ∧ es.Perm ds := by
  induction h with
  | nil =>
    intro ds e
    cases ds with
    | nil => exact ⟨[], rfl, .refl _⟩
    | cons d ds => simp at e
  | cons x _ ih =>
    intro ds e
    cases ds with
    | nil => simp at e
    | cons d ds =>
      rw [List.map_cons] at e
      injection e with e1 e2
      obtain ⟨es, rfl, p⟩ := ih ds e2
      subst e1
      exact ⟨d :: es, rfl, p.cons d⟩
  | swap x y l =>
    intro ds e
    cases ds with
    | nil => simp at e
    | cons d ds =>
      cases ds with
      | nil => simp at e
      | cons d2 ds =>
        rw [List.map_cons, List.map_cons] at e
        injection e with e1 e2
        injection e2 with e2 e3
        subst e1; subst e2; subst e3
        exact ⟨d2 :: d :: ds, rfl, .swap d d2 ds⟩
  | trans _ _ ih1 ih2 =>
    intro ds e
    obtain ⟨es, rfl, p⟩ := ih2 ds e
    obtain ⟨fs, rfl, q⟩ := ih1 es rfl
    exact ⟨fs, rfl, q.trans p⟩
/-- a web: its places and its roads -/
structure WebOk (P : Str → Prop) (ns : List Str) (rs : List (Str × Str)) : Prop where
  nd : ns.Nodup
  nm : ∀ z ∈ ns, P z
  l1 : 1 ≤ ns.length
  l2 : ns.length ≤ 8
  rl : rs.length ≤ 14
  en : ∀ r ∈ rs, r.1 ∈ ns ∧ r.2 ∈ ns ∧ r.1 ≠ r.2
  un : rs.Pairwise fun r s => r ≠ s ∧ r ≠ (s.2, s.1)
theorem roads_ok {zs : List Str} {ps : List (Int × Int)} {rs : List (Str × Str)} (nz : zs.Nodup) (np : ps.Nodup) (hp : ∀ p ∈ ps, 0 ≤ p.1 ∧ p.1 < p.2 ∧ p.2 < zs.length) (hl : rs.length = ps.length)
    (hc : ∀ k p, k < rs.length → ps[k]? = some p → rs[k]? = some (nmI zs p.1, nmI zs p.2) ∨ rs[k]? = some (nmI zs p.2, nmI zs p.1)) :
    (∀ r ∈ rs, r.1 ∈ zs ∧ r.2 ∈ zs ∧ r.1 ≠ r.2) ∧ rs.Pairwise fun r s => r ≠ s ∧ r ≠ (s.2, s.1) := by
  have at1 : ∀ k (h : k < rs.length), ∃ p, ps[k]? = some p ∧ p ∈ ps ∧ (rs[k] = (nmI zs p.1, nmI zs p.2) ∨ rs[k] = (nmI zs p.2, nmI zs p.1)) := fun k h => by
    have h' : k < ps.length := by omega
    refine ⟨ps[k], List.getElem?_eq_getElem h', List.getElem_mem h', ?_⟩
    have := hc k ps[k] h (List.getElem?_eq_getElem h')
    rw [List.getElem?_eq_getElem h] at this
    simpa using this
  have inj : ∀ {i j : Int}, 0 ≤ i → i < zs.length → 0 ≤ j → j < zs.length → nmI zs i = nmI zs j → i = j := fun h0 h1 g0 g1 e => nm_inj nz h0 h1 g0 g1 e
  refine ⟨fun r hr => ?_, List.pairwise_iff_getElem.mpr fun i j hi hj hij => ?_⟩
  · obtain ⟨k, hk, rfl⟩ := List.getElem_of_mem hr
    obtain ⟨p, _, pm, e⟩ := at1 k hk
    obtain ⟨p0, p1, p2⟩ := hp p pm
    have m1 := (at_nm (zs := zs) (i := p.1) p0 (by omega)).2
    have m2 := (at_nm (zs := zs) (i := p.2) (by omega) p2).2
    have ne : nmI zs p.1 ≠ nmI zs p.2 := fun e => by have := inj p0 (by omega) (by omega) p2 e; omega
    rcases e with e | e <;> rw [e]
    · exact ⟨m1, m2, ne⟩
    · exact ⟨m2, m1, fun h => ne h.symm⟩
  · obtain ⟨p, ep, pm, e⟩ := at1 i hi
    obtain ⟨q, eq, qm, g⟩ := at1 j hj
    obtain ⟨p0, p1, p2⟩ := hp p pm
    obtain ⟨q0, q1, q2⟩ := hp q qm
    have npq : p ≠ q := by
      obtain ⟨hi', ei⟩ := List.getElem?_eq_some_iff.mp ep
      obtain ⟨hj', ej⟩ := List.getElem?_eq_some_iff.mp eq
      have := List.pairwise_iff_getElem.mp np i j hi' hj' hij
      rw [ei, ej] at this
      exact this
    have k1 : ¬ (nmI zs p.1 = nmI zs q.1 ∧ nmI zs p.2 = nmI zs q.2) := fun ⟨a, b⟩ => npq (Prod.ext (inj p0 (by omega) q0 (by omega) a) (inj (by omega) p2 (by omega) q2 b))
    have k2 : ¬ (nmI zs p.1 = nmI zs q.2 ∧ nmI zs p.2 = nmI zs q.1) := fun ⟨a, b⟩ => by
      have := inj p0 (by omega) (by omega) q2 a
      have := inj (by omega) p2 q0 (by omega) b
      omega
    rcases e with e | e <;> rcases g with g | g <;> rw [e, g] <;> refine ⟨fun h => ?_, fun h => ?_⟩ <;> injection h with h1 h2
    · exact k1 ⟨h1, h2⟩
    · exact k2 ⟨h1, h2⟩
    · exact k2 ⟨h1, h2⟩
    · exact k1 ⟨h1, h2⟩
    · exact k2 ⟨h2, h1⟩
    · exact k1 ⟨h2, h1⟩
    · exact k1 ⟨h2, h1⟩
    · exact k2 ⟨h2, h1⟩
theorem g_pair {p : Int × Int} {x0 x1 x2 x3 x4 x5 x6 x7 x8 x9 x10 x11 x12 x13 : DV} (h9 : noBrw (some x9) = true) (h10 : noBrw (some x10) = true) :
    gTup' 2 (gCons' (gN 9) (gCons' (gN 10) gNil')) (pD p) [x0, x1, x2, x3, x4, x5, x6, x7, x8, x9, x10, x11, x12, x13] = some [x0, x1, x2, x3, x4, x5, x6, x7, x8, .v (.int p.1), .v (.int p.2), x11, x12, x13] := by
  simp [gTup', gCons', gNil', gN, pD, h9, h10]

/-- the first half: the pairs -/
theorem e_webL {n : Nat} {a b c most : Int} {way : Str} (F : FeedOk n a b c) (hn : n + 2000 < 10 ^ 9) (m0 : 1 ≤ most) (m1 : most ≤ 8) (hw : PyData.strOk way = true) {Q : RV → Ev → Prop}
    (k : ∀ ns rs (a' b' c' : Int), WebOk (· ∈ pool12) ns rs → (ns.length : Int) ≤ max 3 most → FeedOk (n + 100) a' b' c' → Q (.d (.tuple [.tuple (ns.map .str), .tuple (rs.map sD)])) [.brw (fd a' b' c'), .v (.str way), .v (.int most)]) :
    wp fm__law_web [.brw (fd a b c), .v (.str way), .v (.int most)] Q := by
  refine w_fn rfl rfl ?_
  unfold ms__law_web
  refine w_seq ?_
  refine w_set ?_
  refine e_many F (by omega) m0 m1 hw fun many a b c n0 n9 nr F => ?_
  have n1 : many ≤ 8 := by omega
  repeat infer_instance
  refine w_call1 (i := 0) ?_
  repeat infer_instance
  refine e_draw F (by omega) (by decide) (by decide) fun shape a b c F s0 s1 => ⟨nofun, _, _, rfl, ?_⟩
  repeat infer_instance
  refine r2_of (by omega) ?_
  refine w_loop (fun j ρ => ∃ a b c ps x6 x7, ρ = [.brw (fd a b c), .v (.str way), .v (.int most), .v (.int many), .own (.L (ps.map pD)), .v (.int shape), x6, x7, .un, .un, .un, .un, .un, .un] ∧ noBrw (some x6) = true ∧ noBrw (some x7) = true ∧ FeedOk (n + 2 + 2 * j) a b c ∧ PsOk (decide (way = "ring")) (1 + (j : Int)) j ps) _ 0 _ ⟨a, b, c, [], .un, .un, rfl, rfl, rfl, F.mono (by omega), PsOk.nil⟩ ?_ ?_
  · rintro j d ρ hj ⟨a, b, c, ps, x6, x7, rfl, h6, h7, F, P⟩
    obtain ⟨rfl, hj2⟩ := rangeD_get hj
    rw [Nat.zero_add] at F P
    refine ⟨_, show gN 6 _ _ = some [.brw (fd a b c), .v (.str way), .v (.int most), .v (.int many), .own (.L (ps.map pD)), .v (.int shape), .v (.int (1 + (j : Int))), x7, .un, .un, .un, .un, .un, .un] from if_pos h6, ?_⟩
    refine e_tree F (by omega) hw h7 (by omega) P fun a b c ps y7 h7 F P => ?_
    exact ⟨a, b, c, ps, _, y7, rfl, rfl, h7, F.mono (by omega), P.more (by omega) (by omega)⟩
  rintro ρ ⟨a, b, c, ps, x6, x7, rfl, h6, h7, F, P⟩
  rw [rangeD_len, Nat.zero_add] at F P
  dsimp only
  refine w_seq ?_
  refine wp.mono (Q := fun o ρ1 => o = .nx ∧ ∃ ps, ρ1 = [.brw (fd a b c), .v (.str way), .v (.int most), .v (.int many), .own (.L (ps.map pD)), .v (.int shape), x6, x7, .un, .un, .un, .un, .un, .un] ∧ PsOk false many 8 ps) ?_ ?_
  · repeat infer_instance
    refine if_b (fun h => ?_) (fun h => ?_)
    · have hr : way = "ring" := by simpa using h
      have h3 := nr hr
      repeat infer_instance
      refine w_mt (o0 := .L (ps.map pD)) rfl rfl ?_
      repeat infer_instance
      refine mt_app (by with_unfolding_all rfl) (by rw [List.length_map, sizeLine_eq]; have := P.ln; omega) ?_
      repeat infer_instance
      rw [snoc_pD]
      refine ⟨rfl, _, rfl, ?_⟩
      have hnew : ((0 : Int), many - 1) ∉ ps := fun h => by
        have := P.rg (decide_eq_true hr) _ h
        dsimp only at this
        omega
      have P0 : PsOk false many (many - 1).toNat ps := ⟨P.nd, fun p hp => by have := P.ok p hp; omega, nofun, P.ln⟩
      exact (P0.snoc (p := ((0 : Int), many - 1)) hnew ⟨by dsimp only; omega, by dsimp only; omega, by dsimp only; omega⟩ nofun).more (Int.le_refl _) (by omega)
    · repeat infer_instance
      have P0 : PsOk false many (many - 1).toNat ps := ⟨P.nd, fun p hp => by have := P.ok p hp; omega, nofun, P.ln⟩
      exact ⟨rfl, ps, rfl, P0.more (Int.le_refl _) (by omega)⟩
  clear P ps
  rintro o ρ ⟨rfl, ps, rfl, P⟩
  replace F : FeedOk (n + 20) a b c := F.mono (by omega)
  dsimp only
  refine w_seq ?_
  refine w_for ?_
  refine wp.mono (Q := fun is ρ1 => ∃ a b c, ∃ q : Nat, is = rangeD 0 q ∧ q ≤ 4 ∧ (0 < q → 3 ≤ many) ∧ ρ1 = [.brw (fd a b c), .v (.str way), .v (.int most), .v (.int many), .own (.L (ps.map pD)), .v (.int shape), x6, x7, .un, .un, .un, .un, .un, .un] ∧ FeedOk (n + 21) a b c) ?_ ?_
  · have fw : Flat 0 [PyData.str "whole", .str "any"] := flat_str (zs := ["whole", "any"]) (by decide +kernel)
    repeat infer_instance
    refine o_inT (str_shaped hw) (shaped_tup fw (by decide)) ?_
    repeat infer_instance
    refine if_b (fun h => ?_) (fun h => ?_)
    · repeat infer_instance
      refine if_d (fun h2 => ?_) (fun h2 => ?_)
      · repeat infer_instance
        refine w_call1 (i := 0) ?_
        repeat infer_instance
        refine e_draw F (by omega) (by decide) (by decide) fun q a b c F q0 q1 => ⟨nofun, _, _, rfl, ?_⟩
        repeat infer_instance
        refine r1_of (by omega) ?_
        exact ⟨a, b, c, q.toNat, rfl, by omega, fun _ => by omega, rfl, F.mono (by omega)⟩
      · repeat infer_instance
        refine r1_of (by omega) ?_
        exact ⟨a, b, c, 0, rfl, by omega, nofun, rfl, F.mono (by omega)⟩
    · repeat infer_instance
      refine r1_of (by omega) ?_
      exact ⟨a, b, c, 0, rfl, by omega, nofun, rfl, F.mono (by omega)⟩
  clear F a b c
  rintro is ρ ⟨a, b, c, q, rfl, hq, hm, rfl, F⟩
  refine w_loop (fun j ρ => ∃ a b c ps x8 x9 x10 x11, ρ = [.brw (fd a b c), .v (.str way), .v (.int most), .v (.int many), .own (.L (ps.map pD)), .v (.int shape), x6, x7, x8, x9, x10, x11, .un, .un] ∧ noBrw (some x8) = true ∧ noBrw (some x9) = true ∧ noBrw (some x10) = true ∧ noBrw (some x11) = true ∧ FeedOk (n + 21 + 2 * j) a b c ∧ PsOk false many (8 + j) ps) _ 0 _ ⟨a, b, c, ps, .un, .un, .un, .un, rfl, rfl, rfl, rfl, rfl, F, P⟩ ?_ ?_
  · rintro j d ρ hj ⟨a, b, c, ps, x8, x9, x10, x11, rfl, h8, h9, h10, h11, F, P⟩
    obtain ⟨rfl, hj2⟩ := rangeD_get hj
    rw [Nat.zero_add] at F P
    refine ⟨_, show gN 8 _ _ = some [.brw (fd a b c), .v (.str way), .v (.int most), .v (.int many), .own (.L (ps.map pD)), .v (.int shape), x6, x7, .v (.int (0 + (j : Int))), x9, x10, x11, .un, .un] from if_pos h8, ?_⟩
    refine e_more F (by omega) (hm (by omega)) n1 (by omega) h9 h10 h11 P fun a b c ps y9 y10 y11 h9 h10 h11 F P => ?_
    exact ⟨a, b, c, ps, _, y9, y10, y11, rfl, rfl, h9, h10, h11, F.mono (by omega), P.more (Int.le_refl _) (by omega)⟩
  clear F P ps a b c
  rintro ρ ⟨a, b, c, ps, x8, x9, x10, x11, rfl, h8, h9, h10, h11, F, P⟩
  rw [rangeD_len, Nat.zero_add] at F P
  replace F : FeedOk (n + 29) a b c := F.mono (by omega)
  replace P : PsOk false many 12 ps := P.more (Int.le_refl _) (by omega)
  dsimp only
  repeat infer_instance
  refine w_call1 (i := 0) ?_
  repeat infer_instance
  refine e_names F (by omega) (by omega) (by omega) fun zs a b c zl znd zp F => ⟨nofun, _, _, rfl, ?_⟩
  repeat infer_instance
  refine w_call2 (i := 0) (j := 4) (by decide) ?_
  repeat infer_instance
  have lp := P.ln
  refine e_mixed F (by rw [List.length_map]; omega) (.br _) (by rw [List.length_map]; omega) fun xs a b c pm F => ⟨nofun, _, _, rfl, ?_⟩
  rw [List.length_map] at F
  replace F : FeedOk (n + 60) a b c := F.mono (by omega)
  obtain ⟨es, rfl, pe⟩ := perm_map pm ps rfl
  have hes : ∀ p ∈ es, 0 ≤ p.1 ∧ p.1 < p.2 ∧ p.2 < zs.length := fun p hp => by
    have := P.ok p (pe.mem_iff.mp hp)
    omega
  have les : es.length ≤ 12 := by rw [pe.length_eq]; exact lp
  repeat infer_instance
  refine w_loop (fun j ρ => ∃ a b c rs x9 x10, ρ = [.brw (fd a b c), .v (.str way), .v (.int most), .v (.int many), .own (.L (ps.map pD)), .v (.int shape), x6, x7, x8, x9, x10, x11, .own (.L (zs.map .str)), .own (.L (rs.map sD))] ∧ noBrw (some x9) = true ∧ noBrw (some x10) = true ∧ FeedOk (n + 60 + j) a b c ∧ rs.length = j ∧
    ∀ k p, k < rs.length → es[k]? = some p → rs[k]? = some (nmI zs p.1, nmI zs p.2) ∨ rs[k]? = some (nmI zs p.2, nmI zs p.1)) _ 0 _ ⟨a, b, c, [], x9, x10, rfl, h9, h10, F, rfl, nofun⟩ ?_ ?_
  · rintro j d ρ hj ⟨a, b, c, rs, x9, x10, rfl, h9, h10, F, hl, hc⟩
    rw [List.getElem?_map] at hj
    obtain ⟨p, ep, rfl⟩ := Option.map_eq_some_iff.mp hj
    rw [Nat.zero_add] at F hl
    have hjl := (List.getElem?_eq_some_iff.mp ep).1
    refine ⟨_, g_pair h9 h10, ?_⟩
    have := hes p (List.mem_of_getElem? ep)
    refine e_road (many := many) (x9 := .un) (x10 := .un) F (by omega) (by omega) (by omega) fun a b c y hy F => ?_
    refine ⟨a, b, c, rs ++ [y], _, _, rfl, rfl, rfl, F.mono (by omega), by rw [List.length_append, hl]; simp, fun k p' hk hp' => ?_⟩
    rw [List.length_append] at hk
    by_cases hk2 : k < rs.length
    · rw [List.getElem?_append_left hk2]
      exact hc k p' hk2 hp'
    · have : k = rs.length := by simp at hk; omega
      subst this
      rw [hl, ep] at hp'
      cases hp'
      rw [List.getElem?_append_right (Nat.le_refl _), Nat.sub_self]
      rcases hy with rfl | rfl
      · exact .inl rfl
      · exact .inr rfl
  clear F a b c h9 h10 x9 x10
  rintro ρ ⟨a, b, c, rs, x9, x10, rfl, h9, h10, F, hl, hc⟩
  rw [List.length_map, Nat.zero_add] at F hl
  replace F : FeedOk (n + 72) a b c := F.mono (by omega)
  obtain ⟨r1, r2⟩ := roads_ok znd (pe.nodup_iff.mpr P.nd) hes hl hc
  dsimp only
  repeat infer_instance
  refine w_call2 (i := 0) (j := 12) (by decide) ?_
  repeat infer_instance
  refine e_mixed F (by rw [List.length_map]; omega) (.br _) (by rw [List.length_map]; omega) fun xs a b c pm F => ⟨nofun, _, _, rfl, ?_⟩
  rw [List.length_map] at F
  obtain ⟨ns, rfl, pn⟩ := perm_map pm zs rfl
  repeat infer_instance
  refine k ns rs a b c ⟨pn.nodup_iff.mpr znd, fun z hz => zp z (pn.mem_iff.mp hz), by rw [pn.length_eq]; omega, by rw [pn.length_eq]; omega, by omega, fun r hr => ?_, r2⟩ (by rw [pn.length_eq]; omega) (F.mono (by omega))
  obtain ⟨e1, e2, e3⟩ := r1 r hr
  exact ⟨pn.mem_iff.mpr e1, pn.mem_iff.mpr e2, e3⟩
theorem e_web {n : Nat} {a b c most : Int} {way : Str} (F : FeedOk n a b c) (hn : n + 2000 < 10 ^ 9) (m0 : 1 ≤ most) (m1 : most ≤ 8) (hw : PyData.strOk way = true) {Q : RV → Ev → Prop}
    (k : ∀ ns rs (a' b' c' : Int), WebOk (· ∈ pool12) ns rs → FeedOk (n + 100) a' b' c' → Q (.d (.tuple [.tuple (ns.map .str), .tuple (rs.map sD)])) [.brw (fd a' b' c'), .v (.str way), .v (.int most)]) :
    wp fm__law_web [.brw (fd a b c), .v (.str way), .v (.int most)] Q := e_webL F hn m0 m1 hw fun ns rs a b c W _ F => k ns rs a b c W F

abbrev lett : Str := "abcdefghijklmnopqrstuvwxyz"
abbrev digs : Str := "0123456789"
def lowB (c : Nat) : Bool := decide (c ∈ lett.cps.toList)
def digB (c : Nat) : Bool := decide (c ∈ digs.cps.toList)
theorem in_one (y : Str) (c : Nat) : inStr ⟨#[c]⟩ y = decide (c ∈ y.cps.toList) := PySem.StrLaws.found_one y c
/-- a name -/
def nameS (z : Str) : Bool := decide (1 ≤ z.length) && decide (z.length ≤ 8) && (match z.cps.toList with | [] => false | c :: _ => lowB c) && z.cps.toList.all fun c => lowB c || digB c
def nameB : D → Bool
  | .str z => nameS z
  | _ => false
section
variable {K : RV → Prop} {T : String} {d : D} {z : Str} {i : Int} {c : Nat}
theorem o_isi_t (h : isTN T (tyN d) = true) (q : K (.d (.bool true))) : op1 (gIsi T) d K := ⟨_, rfl, by rw [h]; exact q⟩
theorem o_isi_f (h : isTN T (tyN d) = false) (q : K (.d (.bool false))) : op1 (gIsi T) d K := ⟨_, rfl, by rw [h]; exact q⟩
theorem o_ixS (hz : z.length ≤ sizeLine) (h : atI z.cps.toList i = some c) (q : K (.d (.str ⟨#[c]⟩))) : op2 gIx (.str z) (.int i) K := ⟨.d (.str ⟨#[c]⟩), by show (if z.length ≤ sizeLine then _ else _) = _; rw [if_pos hz, h]; rfl, q⟩
theorem n_all {bs : List Bool} (q : K (.d (.bool (bs.all id)))) : opn gAll [.list (bs.map .bool)] K := ⟨.d (.bool (bs.all id)), by
  have : blsOf (bs.map PyData.bool) = some bs := by
    induction bs with
    | nil => rfl
    | cons b bs ih => simp [blsOf, ih]
  show (blsOf (bs.map PyData.bool)).map _ = _
  rw [this]
  rfl, q⟩
end
theorem if_no {b : Bool} {α β : Prop} (h : b = false) (q : β) : if b = true then α else β := by rw [h]; exact q
theorem if_yes {b : Bool} {α β : Prop} (h : b = true) (q : α) : if b = true then α else β := by rw [h]; exact q
theorem take_snoc {α β : Type} {f : α → β} {xs : List α} {j : Nat} {x : α} (h : xs[j]? = some x) : (xs.take j).map f ++ [f x] = (xs.take (j + 1)).map f := by
  rw [List.take_succ, h]
  simp
theorem e_is_name {d : D} (hz : ∀ z, d = .str z → z.length ≤ 1000) {Q : RV → Ev → Prop} (k : Q (.d (.bool (nameB d))) [.v d]) : wp fm_is_name [.v d] Q := by
  refine w_fn rfl rfl ?_
  unfold ms_is_name
  cases d with
  | str z =>
    have hl := hz z rfl
    have hs : z.length ≤ sizeLine := by rw [sizeLine_eq]; omega
    have hlen : z.cps.toList.length = z.length := by simp [Str.length]
    repeat infer_instance
    refine o_isi_t rfl ?_
    repeat infer_instance
    refine if_no rfl ?_
    repeat infer_instance
    refine w_chain ?_
    repeat infer_instance
    refine n_lenS hs ?_
    repeat infer_instance
    refine if_d (fun h1 => ?_) (fun h1 => ?_)
    · repeat infer_instance
      refine if_b (fun h => ?_) (fun h => ?_)
      · repeat infer_instance
        have e : nameB (.str z) = false := by
          have : ¬ z.length ≤ 8 := by simp at h; omega
          show nameS z = false
          unfold nameS
          simp [this]
        rw [e] at k
        exact k
      · have h8 : z.length ≤ 8 := by simp at h; omega
        have h1' : 1 ≤ z.length := by omega
        obtain ⟨c, cs, hc⟩ : ∃ c cs, z.cps.toList = c :: cs := by
          cases e : z.cps.toList with
          | nil => rw [e] at hlen; simp at hlen; omega
          | cons c cs => exact ⟨c, cs, rfl⟩
        repeat infer_instance
        refine o_ixS (c := c) hs (at_nat (k := 0) (by rw [hc]; rfl)) ?_
        repeat infer_instance
        rw [in_one]
        have en : nameB (.str z) = (lowB c && z.cps.toList.all fun c => lowB c || digB c) := by
          show nameS z = _
          unfold nameS
          simp [h1', h8, hc]
        rw [en] at k
        refine if_b (fun h => ?_) (fun h => ?_)
        · repeat infer_instance
          have : lowB c = false := by simpa [lowB] using h
          rw [this] at k
          exact k
        · have : lowB c = true := by simpa [lowB] using h
          rw [this, Bool.true_and] at k
          repeat infer_instance
          refine w_lc ?_
          repeat infer_instance
          refine w_lcGo (fun j acc ρ => acc = ((z.cps.toList.take j).map fun c => PyData.bool (lowB c || digB c)) ∧ ρ = [.v (.str z), .un]) _ 0 _ _ ⟨rfl, rfl⟩ ?_ ?_
          · rintro j d acc ρ hj ⟨rfl, rfl⟩
            rw [Nat.zero_add]
            obtain ⟨c, ec, rfl⟩ : ∃ c, z.cps.toList[j]? = some c ∧ d = .str ⟨#[c]⟩ := by
              unfold signsD at hj
              rw [List.getElem?_map] at hj
              obtain ⟨c, ec, rfl⟩ := Option.map_eq_some_iff.mp hj
              exact ⟨c, ec, rfl⟩
            have hjl : j < z.length := by
              have := (List.getElem?_eq_some_iff.mp ec).1
              omega
            refine ⟨_, rfl, wp_of (a := true) rfl (if_t ?_)⟩
            refine w_F ?_
            refine w_OrV ?_
            repeat infer_instance
            rw [in_one]
            have fin : ∀ b, b = (lowB c || digB c) → (((z.cps.toList.take j).map fun c => PyData.bool (lowB c || digB c)).length < sizeLine ∧ ((z.cps.toList.take j).map fun c => PyData.bool (lowB c || digB c)) ++ [PyData.bool b] = (z.cps.toList.take (j + 1)).map fun c => PyData.bool (lowB c || digB c)) := by
              rintro b rfl
              refine ⟨by rw [List.length_map, List.length_take, sizeLine_eq]; omega, ?_⟩
              exact take_snoc (f := fun c => PyData.bool (lowB c || digB c)) ec
            refine if_b (fun h => ?_) (fun h => ?_)
            · repeat infer_instance
              obtain ⟨f1, f2⟩ := fin true (by rw [show lowB c = true from h]; rfl)
              exact ⟨f1, f2, rfl⟩
            · repeat infer_instance
              rw [in_one]
              repeat infer_instance
              obtain ⟨f1, f2⟩ := fin (digB c) (by rw [show lowB c = false from h, Bool.false_or])
              exact ⟨f1, f2, rfl⟩
          · rintro acc ρ ⟨rfl, rfl⟩
            rw [Nat.zero_add, show (signsD z).length = z.cps.toList.length by simp [signsD], List.take_length]
            repeat infer_instance
            rw [show (z.cps.toList.map fun c => PyData.bool (lowB c || digB c)) = (z.cps.toList.map fun c => lowB c || digB c).map PyData.bool by rw [List.map_map]; rfl]
            refine n_all ?_
            rw [List.all_map]
            repeat infer_instance
            exact k
    · repeat infer_instance
      refine if_yes rfl ?_
      repeat infer_instance
      have e : nameB (.str z) = false := by
        have : ¬ 1 ≤ z.length := by omega
        show nameS z = false
        unfold nameS
        simp [this]
      rw [e] at k
      exact k
  | _ =>
    repeat infer_instance
    refine o_isi_f rfl ?_
    repeat infer_instance
    refine if_yes rfl ?_
    repeat infer_instance
    exact k

/-- texts that can stand in data -/
def GoodS (z : Str) : Prop := z.length ≤ 1000 ∧ PyData.strOk z = true
theorem eqv_nil (ds : List D) : PyData.eqv (.list ds) (.list []) = ds.isEmpty := by
  cases ds <;> rfl
theorem o_eqNil {K : RV → Prop} {ds : List D} (h : SeqAt.shaped (.list ds) = true) (q : K (.d (.bool ds.isEmpty))) : op2 gEq (.list ds) (.list []) K :=
  ⟨.d (.bool ds.isEmpty), by
    unfold gEq
    rw [if_pos (.inr ⟨h, shaped_list (k := 0) nofun (by decide)⟩), eqv_nil], q⟩
theorem o_neNil {K : RV → Prop} {ds : List D} (h : SeqAt.shaped (.list ds) = true) (q : K (.d (.bool (!ds.isEmpty)))) : op2 gNe (.list ds) (.list []) K :=
  ⟨.d (.bool (!ds.isEmpty)), by
    unfold gNe
    rw [if_pos (.inr ⟨h, shaped_list (k := 0) nofun (by decide)⟩), eqv_nil], q⟩
def rowB (d : D) (lo hi : Int) : Bool := match d with
  | .tuple ds => decide (lo ≤ ds.length) && decide ((ds.length : Int) ≤ hi)
  | _ => false
theorem e_row_of {d : D} {lo hi : Int} {Q : RV → Ev → Prop} (k : Q (.d (.bool (rowB d lo hi))) [.v d, .v (.int lo), .v (.int hi)]) : wp fm_is_row_of [.v d, .v (.int lo), .v (.int hi)] Q := by
  refine w_fn rfl rfl ?_
  unfold ms_is_row_of
  cases d with
  | tuple ds =>
    repeat infer_instance
    refine o_isi_t rfl ?_
    repeat infer_instance
    refine w_chain ?_
    repeat infer_instance
    refine if_d (fun h => ?_) (fun h => ?_)
    · repeat infer_instance
      have : rowB (.tuple ds) lo hi = decide ((ds.length : Int) ≤ hi) := by simp [rowB, h]
      rw [this] at k
      exact k
    · have : rowB (.tuple ds) lo hi = false := by simp [rowB, h]
      rw [this] at k
      exact k
  | _ =>
    repeat infer_instance
    refine o_isi_f rfl ?_
    repeat infer_instance
    exact k
theorem n_lenSet {K : RV → Prop} {d : D} {n : Int} (h : gLenSet d = some (.d (.int n))) (q : K (.d (.int n))) : op1 gLenSet d K := ⟨_, h, q⟩
theorem n_len {K : RV → Prop} {d : D} {n : Int} (h : gLen [d] = some (.d (.int n))) (q : K (.d (.int n))) : opn gLen [d] K := ⟨_, h, q⟩
theorem strsOf_map (ss : List Str) : strsOf (ss.map PyData.str) = some ss := by
  induction ss with
  | nil => rfl
  | cons s ss ih => simp [strsOf, ih]
theorem lenSet_t {ss : List Str} (h : ss.length ≤ 4000) : gLenSet (.tuple (ss.map .str)) = some (.d (.int (dd ss).length)) := by
  show (match strsOf (ss.map PyData.str) with | some ss => _ | none => _) = _
  rw [strsOf_map]
  exact if_pos h
theorem full_eq {κ : Type} [DecidableEq κ] (ks : List κ) : (((dd ks).length : Int) == (ks.length : Int)) = decide ks.Nodup := by
  have := dd_full (ks := ks)
  by_cases h : ks.Nodup
  · rw [this.mpr h]; simp [h]
  · have h2 : (dd ks).length ≠ ks.length := fun e => h (this.mp e)
    have : ((dd ks).length : Int) ≠ (ks.length : Int) := by omega
    simp [h, this]
/-- on a tuple of texts -/
theorem e_unlike_t {ss : List Str} (h : ss.length ≤ 4000) {Q : RV → Ev → Prop} (k : Q (.d (.bool (decide ss.Nodup))) [.v (.tuple (ss.map .str))]) : wp fm_are_unlike [.v (.tuple (ss.map .str))] Q := by
  refine w_fn rfl rfl ?_
  unfold ms_are_unlike
  repeat infer_instance
  refine n_lenSet (lenSet_t h) ?_
  repeat infer_instance
  rw [List.length_map, full_eq]
  exact k
def row2 (p : Str × Str) : List Str := [p.1, p.2]
theorem rowsOf_map (ps : List (Str × Str)) : rowsOfD (ps.map sD) = some (ps.map row2) := by
  induction ps with
  | nil => rfl
  | cons p ps ih =>
    show (rowOf (sD p)).bind _ = _
    have : rowOf (sD p) = some (row2 p) := rfl
    rw [this, Option.bind_some, ih]
    rfl
theorem row2_inj {ps : List (Str × Str)} : (ps.map row2).Nodup ↔ ps.Nodup := by
  have inj : ∀ p q : Str × Str, row2 p = row2 q → p = q := fun p q e => by
    obtain ⟨a, b⟩ := p
    obtain ⟨c, d⟩ := q
    unfold row2 at e
    injection e with e1 e2
    injection e2 with e2 _
    dsimp only at e1 e2
    rw [e1, e2]
  unfold List.Nodup
  rw [List.pairwise_map]
  exact ⟨fun h => h.imp fun h e => h (by rw [e]), fun h => h.imp fun h e => h (inj _ _ e)⟩
theorem lenSet_r {ps : List (Str × Str)} (h : ps.length ≤ 63) : gLenSet (.list (ps.map sD)) = some (.d (.int (dd (ps.map row2)).length)) := by
  cases ps with
  | nil => rfl
  | cons p ps =>
    have : strsOf ((p :: ps).map sD) = none := rfl
    unfold gLenSet
    rw [show seqOf (.list ((p :: ps).map sD)) = some ((p :: ps).map sD) from rfl, Option.bind_some, this]
    dsimp only
    rw [rowsOf_map, Option.bind_some, List.length_map, if_pos h]
theorem e_unlike_rb {ps : List (Str × Str)} (h : ps.length ≤ 63) {Q : RV → Ev → Prop} (k : Q (.d (.bool (decide ps.Nodup))) [.brw (.L (ps.map sD))]) : wp fm_are_unlike [.brw (.L (ps.map sD))] Q := by
  refine w_fn rfl rfl ?_
  unfold ms_are_unlike
  repeat infer_instance
  refine n_lenSet (lenSet_r h) ?_
  repeat infer_instance
  rw [List.length_map]
  have := full_eq (ps.map row2)
  rw [List.length_map] at this
  rw [this, decide_eq_decide.mpr row2_inj]
  exact k

/-- data that a web's tester may be given -/
def GoodD : Nat → D → Prop
  | _, .none => True
  | _, .bool _ => True
  | _, .int _ => True
  | _, .str z => GoodS z
  | k + 1, .tuple ds => ds.length ≤ 1000 ∧ ∀ d ∈ ds, GoodD k d
  | k + 1, .list ds => ds.length ≤ 1000 ∧ ∀ d ∈ ds, GoodD k d
  | _, _ => False
theorem good_str {k : Nat} {z : Str} (h : GoodD k (.str z)) : GoodS z := by cases k <;> exact h
theorem good_tup {k : Nat} {ds : List D} (h : GoodD k (.tuple ds)) : ∃ j, k = j + 1 ∧ ds.length ≤ 1000 ∧ ∀ d ∈ ds, GoodD j d := by
  cases k with
  | zero => exact h.elim
  | succ j => exact ⟨j, rfl, h⟩
theorem any_str (ns : List Str) (z : Str) : ((ns.map PyData.str).any fun y => PyData.eqv y (.str z)) = decide (z ∈ ns) := by
  induction ns with
  | nil => rfl
  | cons n ns ih =>
    rw [List.map_cons, List.any_cons, ih]
    show ((n == z) || _) = _
    by_cases h : n = z
    · subst h; simp
    · have h' : ¬ z = n := fun e => h e.symm
      simp [h, h']
/-- one of the places -/
def placeB (ns : List Str) : D → Bool
  | .str z => decide (z ∈ ns)
  | _ => false
def placesB (ns : List Str) (ds : List D) : Bool := match strsOf ds with
  | some ss => ss.all (fun z => decide (z ∈ ns)) && decide ss.Nodup
  | none => false
theorem places_strs {ns : List Str} {ds : List D} (h : ds.all (placeB ns) = true) : ∃ ss : List Str, ds = ss.map .str ∧ ss.all (fun z => decide (z ∈ ns)) = true := by
  induction ds with
  | nil => exact ⟨[], rfl, rfl⟩
  | cons d ds ih =>
    rw [List.all_cons, Bool.and_eq_true] at h
    obtain ⟨ss, rfl, e⟩ := ih h.2
    cases d with
    | str z => exact ⟨z :: ss, rfl, by rw [List.all_cons, e, Bool.and_true]; exact h.1⟩
    | _ => exact absurd h.1 Bool.false_ne_true
theorem places_not {ns : List Str} {ds : List D} (h : ds.all (placeB ns) = false) : placesB ns ds = false := by
  unfold placesB
  cases e : strsOf ds with
  | none => rfl
  | some ss =>
    have : ds = ss.map .str := by
      clear h
      induction ds generalizing ss with
      | nil => cases e; rfl
      | cons d ds ih =>
        cases d with
        | str z =>
          obtain ⟨ts, e2, rfl⟩ := Option.map_eq_some_iff.mp (show (strsOf ds).map (z :: ·) = some ss from e)
          rw [ih ts e2]
          rfl
        | _ => cases e
    subst this
    rw [List.all_map] at h
    have h' : ss.all (fun z => decide (z ∈ ns)) = false := h
    dsimp only
    rw [h', Bool.false_and]
theorem e_are_places {k : Nat} {ns : List Str} {ds : List D} (hn : ∀ z ∈ ns, PyData.strOk z = true) (hg : ∀ d ∈ ds, GoodD k d) (hk : k ≤ 60) (hl : ds.length ≤ 1000) {Q : RV → Ev → Prop}
    (kq : Q (.d (.bool (placesB ns ds))) [.v (.tuple (ns.map .str)), .v (.tuple ds)]) : wp fm_are_places [.v (.tuple (ns.map .str)), .v (.tuple ds)] Q := by
  refine w_fn rfl rfl ?_
  unfold ms_are_places
  repeat infer_instance
  refine w_lc ?_
  repeat infer_instance
  refine w_lcGo (fun j acc ρ => acc = ((ds.take j).map fun d => PyData.bool (placeB ns d)) ∧ ρ = [.v (.tuple (ns.map .str)), .v (.tuple ds), .un]) _ 0 _ _ ⟨rfl, rfl⟩ ?_ ?_
  · rintro j d acc ρ hj ⟨rfl, rfl⟩
    rw [Nat.zero_add]
    have hjl := (List.getElem?_eq_some_iff.mp hj).1
    have gd := hg d (List.mem_of_getElem? hj)
    refine ⟨_, rfl, wp_of (a := true) rfl (if_t ?_)⟩
    refine w_F ?_
    have fin : ∀ b, b = placeB ns d → (((ds.take j).map fun d => PyData.bool (placeB ns d)).length < sizeLine ∧ ((ds.take j).map fun d => PyData.bool (placeB ns d)) ++ [PyData.bool b] = (ds.take (j + 1)).map fun d => PyData.bool (placeB ns d)) := by
      rintro b rfl
      refine ⟨by rw [List.length_map, List.length_take, sizeLine_eq]; omega, ?_⟩
      exact take_snoc (f := fun d => PyData.bool (placeB ns d)) hj
    cases d with
    | str z =>
      repeat infer_instance
      refine o_isi_t rfl ?_
      repeat infer_instance
      refine o_inT (str_shaped (good_str gd).2) (shaped_tup (flat_str hn) (by decide)) ?_
      rw [any_str]
      repeat infer_instance
      obtain ⟨f1, f2⟩ := fin (decide (z ∈ ns)) rfl
      exact ⟨f1, f2, rfl⟩
    | _ =>
      repeat infer_instance
      refine o_isi_f rfl ?_
      repeat infer_instance
      obtain ⟨f1, f2⟩ := fin false rfl
      exact ⟨f1, f2, rfl⟩
  · rintro acc ρ ⟨rfl, rfl⟩
    rw [Nat.zero_add, List.take_length]
    repeat infer_instance
    rw [show (ds.map fun d => PyData.bool (placeB ns d)) = (ds.map (placeB ns)).map PyData.bool by rw [List.map_map]; rfl]
    refine n_all ?_
    rw [List.all_map]
    repeat infer_instance
    refine if_b (fun h => ?_) (fun h => ?_)
    · obtain ⟨ss, rfl, e⟩ := places_strs (show ds.all (placeB ns) = true from h)
      have : placesB ns (ss.map .str) = decide ss.Nodup := by
        unfold placesB
        rw [strsOf_map]
        dsimp only
        rw [e, Bool.true_and]
      rw [this] at kq
      rw [List.length_map] at hl
      refine w_call0 ?_
      repeat infer_instance
      refine e_unlike_t (by omega) ⟨nofun, ?_⟩
      exact kq
    · rw [places_not (show ds.all (placeB ns) = false from h)] at kq
      exact kq
def roadB (ns : List Str) (d : D) : Bool := match d with
  | .tuple ds => decide (ds.length = 2) && placesB ns ds
  | _ => false
theorem e_is_road {k : Nat} {ns : List Str} {d : D} (hn : ∀ z ∈ ns, PyData.strOk z = true) (hg : GoodD k d) (hk : k ≤ 60) {Q : RV → Ev → Prop}
    (kq : Q (.d (.bool (roadB ns d))) [.v (.tuple (ns.map .str)), .v d]) : wp fm_is_road [.v (.tuple (ns.map .str)), .v d] Q := by
  refine w_fn rfl rfl ?_
  unfold ms_is_road
  repeat infer_instance
  refine w_call0 ?_
  repeat infer_instance
  refine e_row_of ⟨nofun, ?_⟩
  repeat infer_instance
  cases d with
  | tuple ds =>
    obtain ⟨j, rfl, hl, hd⟩ := good_tup hg
    refine if_b (fun h => ?_) (fun h => ?_)
    · have h2 : ds.length = 2 := by simp [rowB] at h; omega
      have : roadB ns (.tuple ds) = placesB ns ds := by simp [roadB, h2]
      rw [this] at kq
      refine w_call0 ?_
      repeat infer_instance
      refine e_are_places hn hd (by omega) hl ⟨nofun, ?_⟩
      exact kq
    · have h2 : ds.length ≠ 2 := fun e => by simp [rowB, e] at h
      have : roadB ns (.tuple ds) = false := by simp [roadB, h2]
      rw [this] at kq
      exact kq
  | _ =>
    refine if_no rfl ?_
    exact kq

def roadOf : D → Str × Str
  | .tuple [.str a, .str b] => if strLe a b then (a, b) else (b, a)
  | _ => (Str.empty, Str.empty)
/-- a web -/
def formB : D → Bool
  | .tuple [.tuple ps, .tuple rs] => match strsOf ps with
    | some ns => decide (1 ≤ ps.length) && decide (ps.length ≤ 8) && ns.all nameS && decide ns.Nodup && decide (rs.length ≤ 14) && rs.all (roadB ns) && decide (rs.map roadOf).Nodup
    | none => false
  | _ => false
theorem strs_back : ∀ {ds : List D} {ss : List Str}, strsOf ds = some ss → ds = ss.map .str
  | [], ss, e => by cases e; rfl
  | .str z :: ds, ss, e => by
    obtain ⟨ts, e2, rfl⟩ := Option.map_eq_some_iff.mp (show (strsOf ds).map (z :: ·) = some ss from e)
    rw [strs_back e2]
    rfl
  | .none :: _, _, e => by cases e
  | .bool _ :: _, _, e => by cases e
  | .int _ :: _, _, e => by cases e
  | .tuple _ :: _, _, e => by cases e
  | .list _ :: _, _, e => by cases e
  | .dict _ :: _, _, e => by cases e
theorem names_strs {ds : List D} (h : ds.all nameB = true) : ∃ ss : List Str, ds = ss.map .str ∧ ss.all nameS = true := by
  induction ds with
  | nil => exact ⟨[], rfl, rfl⟩
  | cons d ds ih =>
    rw [List.all_cons, Bool.and_eq_true] at h
    obtain ⟨ss, rfl, e⟩ := ih h.2
    cases d with
    | str z => exact ⟨z :: ss, rfl, by rw [List.all_cons, e, Bool.and_true]; exact h.1⟩
    | _ => exact absurd h.1 Bool.false_ne_true
theorem form_not {ps : List D} {b : D} (h : ∀ ns rs, b = .tuple rs → ps = ns.map .str → (decide (1 ≤ ps.length) && decide (ps.length ≤ 8) && ns.all nameS && decide ns.Nodup && decide (rs.length ≤ 14) && rs.all (roadB ns) && decide (rs.map roadOf).Nodup) = false) : formB (.tuple [.tuple ps, b]) = false := by
  cases b with
  | tuple rs =>
    show (match strsOf ps with | some ns => _ | none => false) = false
    cases e : strsOf ps with
    | none => rfl
    | some ns => exact h ns rs rfl (strs_back e)
  | _ => rfl
theorem all_map_str {ns : List Str} : (ns.map PyData.str).all nameB = ns.all nameS := by
  rw [List.all_map]
  rfl
theorem map_str_inj {ns ms : List Str} (h : ns.map PyData.str = ms.map PyData.str) : ns = ms := by
  have := congrArg strsOf h
  rw [strsOf_map, strsOf_map] at this
  injection this
theorem sortS_two (a b : Str) : sortS [a, b] = if strLe a b then [a, b] else [b, a] := by
  unfold sortS
  cases h : strLe a b <;> simp [List.mergeSort, List.merge, h]
theorem road_two {ns : List Str} {d : D} (h : roadB ns d = true) : ∃ a b, d = .tuple [.str a, .str b] ∧ a ∈ ns ∧ b ∈ ns ∧ a ≠ b := by
  cases d with
  | tuple ds =>
    unfold roadB at h
    dsimp only at h
    rw [Bool.and_eq_true] at h
    obtain ⟨h2, h3⟩ := h
    have h2 := of_decide_eq_true h2
    unfold placesB at h3
    cases e : strsOf ds with
    | none => rw [e] at h3; cases h3
    | some ss =>
      have := strs_back e
      subst this
      rw [e] at h3
      rw [List.length_map] at h2
      match ss, h2 with
      | [a, b], _ =>
        simp at h3
        exact ⟨a, b, rfl, h3.1.1, h3.1.2, h3.2⟩
  | _ => cases h
theorem n_sorted2 {K : RV → Prop} {a b : Str} (q : K (.nl (.L (if strLe a b then [.str a, .str b] else [.str b, .str a])))) : opn gSorted [.tuple [.str a, .str b]] K := ⟨.nl (.L (if strLe a b then [.str a, .str b] else [.str b, .str a])), by
  show some (RV.nl (.L ((sortS [a, b]).map .str))) = _
  rw [sortS_two]
  cases strLe a b <;> rfl, q⟩

/-- behind the tests of the places -/
theorem e_web_form {k : Nat} {d : D} (hg : GoodD k d ∨ d = .dict []) (hk : k ≤ 60) {Q : RV → Ev → Prop} (kq : Q (.d (.bool (formB d))) [.v d]) : wp fm_is_web_form [.v d] Q := by
  refine w_fn rfl rfl ?_
  unfold ms_is_web_form
  repeat infer_instance
  refine w_call0 ?_
  repeat infer_instance
  refine e_row_of ⟨nofun, ?_⟩
  repeat infer_instance
  cases d with
  | tuple ds =>
    rcases hg with hg | hg
    case inr => cases hg
    obtain ⟨j, rfl, hl, hd⟩ := good_tup hg
    refine if_b (fun h => ?_) (fun h => ?_)
    · repeat infer_instance
      have h2 : ds.length ≠ 2 := fun e => by simp [rowB, e] at h
      have : formB (.tuple ds) = false := by
        match ds, h2 with
        | [], _ => rfl
        | [_], _ => cases ‹D› <;> rfl
        | [a, b], h2 => exact absurd rfl h2
        | a :: b :: c :: r, _ => cases a <;> cases b <;> rfl
      rw [this] at kq
      exact kq
    have h2 : ds.length = 2 := by simp [rowB] at h; omega
    obtain ⟨a, b, rfl⟩ : ∃ a b, ds = [a, b] := by
      match ds, h2 with
      | [a, b], _ => exact ⟨a, b, rfl⟩
    have ga := hd a (by simp)
    have gb := hd b (by simp)
    repeat infer_instance
    refine w_call0 ?_
    repeat infer_instance
    refine e_row_of ⟨nofun, ?_⟩
    repeat infer_instance
    refine if_b (fun h => ?_) (fun h => ?_)
    · repeat infer_instance
      have : formB (.tuple [a, b]) = false := by
        cases a with
        | tuple ps =>
          refine form_not fun ns rs _ _ => ?_
          by_cases h1 : 1 ≤ ps.length
          · have : ¬ ps.length ≤ 8 := fun h8 => by
              have g1 : (1 : Int) ≤ ps.length := by omega
              have g8 : (ps.length : Int) ≤ 8 := by omega
              simp [rowB, g1, g8] at h
            simp [this]
          · simp [h1]
        | _ => cases b <;> rfl
      rw [this] at kq
      exact kq
    obtain ⟨ps, rfl⟩ : ∃ ps, a = .tuple ps := by
      cases a with
      | tuple ps => exact ⟨ps, rfl⟩
      | _ => exact absurd h (by simp [rowB])
    have h18 : 1 ≤ ps.length ∧ ps.length ≤ 8 := by simp [rowB] at h; omega
    obtain ⟨j, rfl, hpl, hpd⟩ := good_tup ga
    repeat infer_instance
    refine w_lc ?_
    repeat infer_instance
    refine w_lcGo (fun j acc ρ => acc = ((ps.take j).map fun d => PyData.bool (nameB d)) ∧ ρ = [.v (.tuple [.tuple ps, b]), .v (.tuple ps), .v b, .un, .un]) _ 0 _ _ ⟨rfl, rfl⟩ ?_ ?_
    · rintro j d acc ρ hj ⟨rfl, rfl⟩
      rw [Nat.zero_add]
      have hjl := (List.getElem?_eq_some_iff.mp hj).1
      have gd := hpd d (List.mem_of_getElem? hj)
      refine ⟨_, rfl, wp_of (a := true) rfl (if_t ?_)⟩
      refine w_F ?_
      refine w_call0 ?_
      repeat infer_instance
      refine e_is_name (fun z e => by subst e; exact (good_str gd).1) ⟨nofun, ?_⟩
      repeat infer_instance
      exact ⟨by rw [List.length_map, List.length_take, sizeLine_eq]; omega, take_snoc (f := fun d => PyData.bool (nameB d)) hj, rfl⟩
    rintro acc ρ ⟨rfl, rfl⟩
    rw [Nat.zero_add, List.take_length]
    repeat infer_instance
    rw [show (ps.map fun d => PyData.bool (nameB d)) = (ps.map nameB).map PyData.bool by rw [List.map_map]; rfl]
    refine n_all ?_
    rw [List.all_map]
    repeat infer_instance
    refine if_b (fun h => ?_) (fun h => ?_)
    · repeat infer_instance
      have hn : ps.all nameB = false := by simpa using h
      rw [form_not fun ns rs _ e => by subst e; rw [all_map_str] at hn; simp [hn]] at kq
      exact kq
    have hn : ps.all nameB = true := by simpa using h
    obtain ⟨ns, rfl, hns⟩ := names_strs hn
    rw [List.length_map] at h18
    refine w_Not ?_
    repeat infer_instance
    refine w_call0 ?_
    repeat infer_instance
    refine e_unlike_t (by omega) ⟨nofun, ?_⟩
    repeat infer_instance
    refine if_b (fun h => ?_) (fun h => ?_)
    · repeat infer_instance
      have hu : ¬ ns.Nodup := by simpa using h
      rw [form_not fun ms rs _ e => by rw [← map_str_inj e]; simp [hu]] at kq
      exact kq
    have hu : ns.Nodup := by simpa using h
    repeat infer_instance
    refine w_call0 ?_
    repeat infer_instance
    refine e_row_of ⟨nofun, ?_⟩
    repeat infer_instance
    refine if_b (fun h => ?_) (fun h => ?_)
    · repeat infer_instance
      rw [form_not fun ms rs e _ => by
        subst e
        have : ¬ rs.length ≤ 14 := fun h14 => by
          have g : (rs.length : Int) ≤ 14 := by omega
          have g0 : (0 : Int) ≤ rs.length := by omega
          simp [rowB, g, g0] at h
        simp [this]] at kq
      exact kq
    obtain ⟨rs, rfl⟩ : ∃ rs, b = .tuple rs := by
      cases b with
      | tuple rs => exact ⟨rs, rfl⟩
      | _ => exact absurd h (by simp [rowB])
    have h14 : rs.length ≤ 14 := by simp [rowB] at h; omega
    obtain ⟨j2, e2, hrl, hrd⟩ := good_tup gb
    cases e2
    have hsok : ∀ z ∈ ns, PyData.strOk z = true := fun z hz => (good_str (hpd (.str z) (List.mem_map.mpr ⟨z, hz, rfl⟩))).2
    repeat infer_instance
    refine w_lc ?_
    repeat infer_instance
    refine w_lcGo (fun j acc ρ => acc = ((rs.take j).map fun d => PyData.bool (roadB ns d)) ∧ ρ = [.v (.tuple [.tuple (ns.map .str), .tuple rs]), .v (.tuple (ns.map .str)), .v (.tuple rs), .un, .un]) _ 0 _ _ ⟨rfl, rfl⟩ ?_ ?_
    · rintro j d acc ρ hj ⟨rfl, rfl⟩
      rw [Nat.zero_add]
      have hjl := (List.getElem?_eq_some_iff.mp hj).1
      have gd := hrd d (List.mem_of_getElem? hj)
      refine ⟨_, rfl, wp_of (a := true) rfl (if_t ?_)⟩
      refine w_F ?_
      refine w_call0 ?_
      repeat infer_instance
      refine e_is_road hsok gd (by omega) ⟨nofun, ?_⟩
      repeat infer_instance
      exact ⟨by rw [List.length_map, List.length_take, sizeLine_eq]; omega, take_snoc (f := fun d => PyData.bool (roadB ns d)) hj, rfl⟩
    rintro acc ρ ⟨rfl, rfl⟩
    rw [Nat.zero_add, List.take_length]
    repeat infer_instance
    rw [show (rs.map fun d => PyData.bool (roadB ns d)) = (rs.map (roadB ns)).map PyData.bool by rw [List.map_map]; rfl]
    refine n_all ?_
    rw [List.all_map]
    repeat infer_instance
    refine if_b (fun h => ?_) (fun h => ?_)
    · repeat infer_instance
      have hr : rs.all (roadB ns) = false := by simpa using h
      rw [form_not fun ms rs' e e' => by cases e; rw [← map_str_inj e']; simp [hr]] at kq
      exact kq
    have hr : rs.all (roadB ns) = true := by simpa using h
    repeat infer_instance
    refine w_call0 ?_
    repeat infer_instance
    refine w_lc ?_
    repeat infer_instance
    refine w_lcGo (fun j acc ρ => acc = ((rs.take j).map fun d => sD (roadOf d)) ∧ ρ = [.v (.tuple [.tuple (ns.map .str), .tuple rs]), .v (.tuple (ns.map .str)), .v (.tuple rs), .un, .un]) _ 0 _ _ ⟨rfl, rfl⟩ ?_ ?_
    · rintro j d acc ρ hj ⟨rfl, rfl⟩
      rw [Nat.zero_add]
      have hjl := (List.getElem?_eq_some_iff.mp hj).1
      obtain ⟨x, y, rfl, _, _, _⟩ := road_two (List.all_eq_true.mp hr d (List.mem_of_getElem? hj))
      refine ⟨_, rfl, wp_of (a := true) rfl (if_t ?_)⟩
      repeat infer_instance
      refine n_sorted2 ?_
      repeat infer_instance
      refine ⟨by rw [List.length_map, List.length_take, sizeLine_eq]; omega, ?_, rfl⟩
      rw [← take_snoc (f := fun d => sD (roadOf d)) hj]
      congr 1
      show _ = [sD (if strLe x y then (x, y) else (y, x))]
      cases strLe x y <;> rfl
    rintro acc ρ ⟨rfl, rfl⟩
    rw [Nat.zero_add, List.take_length]
    rw [show (rs.map fun d => sD (roadOf d)) = (rs.map roadOf).map sD by rw [List.map_map]; rfl]
    repeat infer_instance
    refine e_unlike_rb (by rw [List.length_map]; omega) ⟨nofun, ?_⟩
    have : formB (.tuple [.tuple (ns.map .str), .tuple rs]) = decide (rs.map roadOf).Nodup := by
      show (match strsOf (ns.map PyData.str) with | some ns => _ | none => false) = _
      rw [strsOf_map]
      simp [h18.1, h18.2, hns, hu, h14, hr]
    rw [this] at kq
    exact kq
  | _ =>
    refine if_yes rfl ?_
    repeat infer_instance
    exact kq
theorem form_is {ns : List Str} {rs : List D} (h1 : 1 ≤ ns.length) (h8 : ns.length ≤ 8) (hn : ns.all nameS = true) (h14 : rs.length ≤ 14) :
    formB (.tuple [.tuple (ns.map .str), .tuple rs]) = (decide ns.Nodup && rs.all (roadB ns) && decide (rs.map roadOf).Nodup) := by
  show (match strsOf (ns.map PyData.str) with | some ns => _ | none => false) = _
  rw [strsOf_map]
  simp [h1, h8, hn, h14]
theorem road_is (ns : List Str) (a b : Str) : roadB ns (.tuple [.str a, .str b]) = (decide (a ∈ ns) && decide (b ∈ ns) && !(a == b)) := by
  simp [roadB, placesB, strsOf]
  by_cases h1 : a ∈ ns <;> by_cases h2 : b ∈ ns <;> by_cases h3 : a = b <;> simp [h1, h2, h3]
theorem roadOf_eq {r s : Str × Str} (h : roadOf (sD r) = roadOf (sD s)) : r = s ∨ r = (s.2, s.1) := by
  obtain ⟨a, b⟩ := r
  obtain ⟨c, d⟩ := s
  change (if strLe a b then (a, b) else (b, a)) = (if strLe c d then (c, d) else (d, c)) at h
  cases h1 : strLe a b <;> cases h2 : strLe c d <;> simp only [h1, h2, if_true] at h <;> simp at h <;> obtain ⟨rfl, rfl⟩ := h
  · exact .inl rfl
  · exact .inr rfl
  · exact .inr rfl
  · exact .inl rfl
theorem web_form {P : Str → Prop} {ns : List Str} {rs : List (Str × Str)} (W : WebOk P ns rs) (hP : ∀ z, P z → nameS z = true) : formB (.tuple [.tuple (ns.map .str), .tuple (rs.map sD)]) = true := by
  rw [form_is W.l1 W.l2 (List.all_eq_true.mpr fun z hz => hP z (W.nm z hz)) (by rw [List.length_map]; exact W.rl)]
  have h1 : (rs.map sD).all (roadB ns) = true := List.all_eq_true.mpr fun d hd => by
    obtain ⟨r, hr, rfl⟩ := List.mem_map.mp hd
    obtain ⟨e1, e2, e3⟩ := W.en r hr
    show roadB ns (.tuple [.str r.1, .str r.2]) = true
    rw [road_is]
    simp [e1, e2, e3]
  have h2 : ((rs.map sD).map roadOf).Nodup := by
    unfold List.Nodup
    rw [List.pairwise_map, List.pairwise_map]
    exact W.un.imp fun ⟨n1, n2⟩ e => (roadOf_eq e).elim n1 n2
  rw [h1, decide_eq_true h2, decide_eq_true W.nd]
  rfl
theorem pool_names : ∀ z ∈ pool12, nameS z = true := by decide +kernel

end PK

namespace PK
open PySem PySem.Spec PyProof.Rows L2 PL
variable [TheW]
local macro_rules | `(tactic| infer_instance) => `(tactic| dsimp only)
local macro_rules | `(tactic| infer_instance) => `(tactic| with_reducible refine if_t ?_)
local macro_rules | `(tactic| infer_instance) => `(tactic| with_reducible refine if_f ?_)
local macro_rules | `(tactic| infer_instance) => `(tactic| with_reducible refine w_seq ?_)
local macro_rules | `(tactic| infer_instance) => `(tactic| with_reducible refine w_nx ?_)
local macro_rules | `(tactic| infer_instance) => `(tactic| with_reducible refine w_bk ?_)
local macro_rules | `(tactic| infer_instance) => `(tactic| with_reducible refine w_ct ?_)
local macro_rules | `(tactic| infer_instance) => `(tactic| with_reducible refine w_drop ?_)
local macro_rules | `(tactic| infer_instance) => `(tactic| with_reducible refine w_ret ?_)
local macro_rules | `(tactic| infer_instance) => `(tactic| with_reducible refine w_retN ?_)
local macro_rules | `(tactic| infer_instance) => `(tactic| with_reducible refine w_ifS ?_)
local macro_rules | `(tactic| infer_instance) => `(tactic| with_reducible refine w_set ?_)
local macro_rules | `(tactic| infer_instance) => `(tactic| with_reducible refine w_asg ?_)
local macro_rules | `(tactic| infer_instance) => `(tactic| (with_reducible refine w_put ?_))
local macro_rules | `(tactic| infer_instance) => `(tactic| with_reducible refine w_F ?_)
local macro_rules | `(tactic| infer_instance) => `(tactic| with_reducible refine w_dnil ?_)
local macro_rules | `(tactic| infer_instance) => `(tactic| with_reducible refine w_dcons ?_)
local macro_rules | `(tactic| infer_instance) => `(tactic| with_reducible refine w_anil ?_)
local macro_rules | `(tactic| infer_instance) => `(tactic| with_reducible refine w_acons ?_)
local macro_rules | `(tactic| infer_instance) => `(tactic| with_reducible refine w_callN ?_)
local macro_rules | `(tactic| infer_instance) => `(tactic| with_reducible refine w_m1 ?_)
local macro_rules | `(tactic| infer_instance) => `(tactic| with_reducible refine w_m2 ?_)
local macro_rules | `(tactic| infer_instance) => `(tactic| with_reducible refine w_c ?_)
local macro_rules | `(tactic| infer_instance) => `(tactic| with_reducible refine w_B ?_)
local macro_rules | `(tactic| infer_instance) => `(tactic| with_reducible refine ⟨_, rfl, ?_⟩)
local macro_rules | `(tactic| infer_instance) => `(tactic| with_reducible refine w_And ?_)
local macro_rules | `(tactic| infer_instance) => `(tactic| with_reducible refine w_Or ?_)
local macro_rules | `(tactic| infer_instance) => `(tactic| with_reducible refine w_Not ?_)
local macro_rules | `(tactic| infer_instance) => `(tactic| with_reducible refine w_If ?_)
local macro_rules | `(tactic| infer_instance) => `(tactic| with_reducible refine w_lst ?_)
local macro_rules | `(tactic| infer_instance) => `(tactic| with_reducible refine w_tup ?_)
local macro_rules | `(tactic| infer_instance) => `(tactic| with_reducible refine w_var (by with_unfolding_all rfl) ?_)
local macro_rules | `(tactic| infer_instance) => `(tactic| with_reducible refine w_varO (by with_unfolding_all rfl) ?_)
local macro_rules | `(tactic| infer_instance) => `(tactic| with_reducible refine w_varB (by with_unfolding_all rfl) ?_)
local macro_rules | `(tactic| infer_instance) => `(tactic| with_reducible refine lk_d ?_)
local macro_rules | `(tactic| infer_instance) => `(tactic| with_reducible refine lk_nlL ?_)
local macro_rules | `(tactic| infer_instance) => `(tactic| with_reducible refine lk_ownL (by with_unfolding_all rfl) ?_)
local macro_rules | `(tactic| infer_instance) => `(tactic| with_reducible refine lk_brwL (by with_unfolding_all rfl) ?_)
local macro_rules | `(tactic| infer_instance) => `(tactic| with_reducible refine fz_d' ?_)
local macro_rules | `(tactic| infer_instance) => `(tactic| with_reducible refine fz_nlL' ?_)
local macro_rules | `(tactic| infer_instance) => `(tactic| with_reducible refine fz_ownL' (by with_unfolding_all rfl) ?_)
local macro_rules | `(tactic| infer_instance) => `(tactic| with_reducible refine sto_d (by with_unfolding_all rfl) ?_)
local macro_rules | `(tactic| infer_instance) => `(tactic| with_reducible refine sto_nl (by with_unfolding_all rfl) ?_)
local macro_rules | `(tactic| infer_instance) => `(tactic| with_reducible refine o_addI ?_)
local macro_rules | `(tactic| infer_instance) => `(tactic| with_reducible refine o_sub ?_)
local macro_rules | `(tactic| infer_instance) => `(tactic| with_reducible refine o_lt ?_)
local macro_rules | `(tactic| infer_instance) => `(tactic| with_reducible refine o_le ?_)
local macro_rules | `(tactic| infer_instance) => `(tactic| with_reducible refine o_gt ?_)
local macro_rules | `(tactic| infer_instance) => `(tactic| with_reducible refine o_ge ?_)
local macro_rules | `(tactic| infer_instance) => `(tactic| with_reducible refine o_ixL (by with_unfolding_all rfl) ?_)
local macro_rules | `(tactic| infer_instance) => `(tactic| with_reducible refine o_ixT (by with_unfolding_all rfl) ?_)
local macro_rules | `(tactic| infer_instance) => `(tactic| with_reducible refine o_pow (by with_unfolding_all decide) ?_)
local macro_rules | `(tactic| infer_instance) => `(tactic| with_reducible refine o_mod (by with_unfolding_all decide) ?_)
local macro_rules | `(tactic| infer_instance) => `(tactic| with_reducible refine l_nil ?_)
local macro_rules | `(tactic| infer_instance) => `(tactic| with_reducible refine l_cons ?_)
local macro_rules | `(tactic| infer_instance) => `(tactic| with_reducible refine n_lenL ?_)
local macro_rules | `(tactic| infer_instance) => `(tactic| with_reducible refine n_lenT ?_)
local macro_rules | `(tactic| infer_instance) => `(tactic| with_reducible refine n_intI ?_)
local macro_rules | `(tactic| infer_instance) => `(tactic| with_reducible refine n_intB ?_)
local macro_rules | `(tactic| infer_instance) => `(tactic| with_reducible refine n_max2 ?_)
local macro_rules | `(tactic| infer_instance) => `(tactic| with_reducible refine n_min2 ?_)

local macro_rules | `(tactic| infer_instance) => `(tactic| with_reducible refine ⟨_, by with_unfolding_all rfl, ?_⟩)
local macro_rules | `(tactic| infer_instance) => `(tactic| with_reducible refine put_ok (by with_unfolding_all rfl) (by with_unfolding_all rfl) ?_)
local macro_rules | `(tactic| infer_instance) => `(tactic| with_reducible refine tg_ok (by with_unfolding_all rfl) ?_)
local macro_rules | `(tactic| infer_instance) => `(tactic| with_reducible refine w_for ?_)
local macro_rules | `(tactic| infer_instance) => `(tactic| with_reducible refine w_range1 ?_)
local macro_rules | `(tactic| infer_instance) => `(tactic| with_reducible refine w_range2 ?_)
local macro_rules | `(tactic| infer_instance) => `(tactic| with_reducible refine w_seqI ?_)
local macro_rules | `(tactic| infer_instance) => `(tactic| with_reducible refine w_par2 ?_)
local macro_rules | `(tactic| infer_instance) => `(tactic| with_reducible refine w_par3 ?_)
local macro_rules | `(tactic| infer_instance) => `(tactic| with_reducible refine w_parN ?_)
local macro_rules | `(tactic| infer_instance) => `(tactic| with_reducible refine w_sl ?_)
local macro_rules | `(tactic| infer_instance) => `(tactic| with_reducible refine w_oN ?_)
local macro_rules | `(tactic| infer_instance) => `(tactic| with_reducible refine w_oS ?_)
local macro_rules | `(tactic| infer_instance) => `(tactic| with_reducible refine n_lstL ?_)
local macro_rules | `(tactic| infer_instance) => `(tactic| with_reducible refine n_lstT ?_)
local macro_rules | `(tactic| infer_instance) => `(tactic| with_reducible refine n_tupL ?_)
local macro_rules | `(tactic| infer_instance) => `(tactic| with_reducible refine n_tupT ?_)
local macro_rules | `(tactic| infer_instance) => `(tactic| with_reducible refine w_AndV ?_)
local macro_rules | `(tactic| infer_instance) => `(tactic| with_reducible refine w_OrV ?_)
local macro_rules | `(tactic| infer_instance) => `(tactic| with_reducible refine w_NotV ?_)
local macro_rules | `(tactic| infer_instance) => `(tactic| with_reducible refine ⟨_, _, rfl, by with_unfolding_all rfl, ?_⟩)
local macro_rules | `(tactic| infer_instance) => `(tactic| with_reducible refine ⟨_, _, _, rfl, ⟨by with_unfolding_all rfl, by with_unfolding_all rfl, by with_unfolding_all rfl⟩, ?_⟩)
local macro_rules | `(tactic| infer_instance) => `(tactic| with_reducible refine ⟨of_decide_eq_true (by with_unfolding_all rfl), ?_⟩)
local macro_rules | `(tactic| infer_instance) => `(tactic| with_reducible refine sq_L ?_)
local macro_rules | `(tactic| infer_instance) => `(tactic| with_reducible refine sq_T ?_)
local macro_rules | `(tactic| infer_instance) => `(tactic| with_reducible refine sq_S ?_)
local macro_rules | `(tactic| infer_instance) => `(tactic| with_reducible refine o_eqS ?_)
local macro_rules | `(tactic| infer_instance) => `(tactic| with_reducible refine o_neS ?_)
local macro_rules | `(tactic| infer_instance) => `(tactic| with_reducible refine o_eqI ?_)
local macro_rules | `(tactic| infer_instance) => `(tactic| with_reducible refine o_neI ?_)
local macro_rules | `(tactic| infer_instance) => `(tactic| with_reducible refine o_inSS ?_)
local macro_rules | `(tactic| infer_instance) => `(tactic| with_reducible refine o_notinSS ?_)

theorem sa_nil {ρ : Ev} {K : Ev → Prop} (k : K ρ) : stoAll [] [] ρ K := k
theorem sa_cons {i : Nat} {is : List Nat} {r : RV} {rs : List RV} {ρ : Ev} {K : Ev → Prop} (h : rs.all (alNot i) = true) (k : sto i r ρ fun ρ' => stoAll is rs ρ' K) : stoAll (i :: is) (r :: rs) ρ K := ⟨h, k⟩
local macro_rules | `(tactic| infer_instance) => `(tactic| with_reducible refine sa_nil ?_)
local macro_rules | `(tactic| infer_instance) => `(tactic| with_reducible refine sa_cons (by with_unfolding_all rfl) ?_)
/-- the pairs that a great web's loop adds in one turn -/
def upto (at_ : Int) (m : Nat) : List (Int × Int) := (List.range m).map fun (i : Nat) => ((i : Int), at_)
theorem PsOk.extend {lim : Int} {q m : Nat} {ps : List (Int × Int)} (h : PsOk false lim q ps) (hm : (m : Int) ≤ lim) : PsOk false (lim + 1) (q + m) (ps ++ upto lim m) := by
  have inU : ∀ p ∈ upto lim m, p.2 = lim ∧ 0 ≤ p.1 ∧ p.1 < m := fun p hp => by
    obtain ⟨i, hi, rfl⟩ := List.mem_map.mp hp
    have := List.mem_range.mp hi
    exact ⟨rfl, by dsimp only; omega, by dsimp only; omega⟩
  refine ⟨?_, ?_, nofun, ?_⟩
  · rw [List.nodup_append]
    refine ⟨h.nd, ?_, ?_⟩
    · unfold upto List.Nodup
      rw [List.pairwise_map]
      refine List.nodup_range.imp fun {x y} hxy e => hxy ?_
      injection e with e _
      omega
    · rintro x hx y hy rfl
      have := (h.ok x hx).2.2
      have := (inU x hy).1
      omega
  · intro p hp
    rcases List.mem_append.mp hp with hp | hp
    · have := h.ok p hp
      omega
    · have := inU p hp
      omega
  · rw [List.length_append]
    have := h.ln
    simp [upto]
    omega
end PK

namespace PK
open PySem PySem.Spec PyProof.Rows L2 PL
variable [TheW]
local macro_rules | `(tactic| infer_instance) => `(tactic| dsimp only)
local macro_rules | `(tactic| infer_instance) => `(tactic| with_reducible refine le_ok (by with_unfolding_all rfl) ?_)
local macro_rules | `(tactic| infer_instance) => `(tactic| with_reducible refine pick_ok (by with_unfolding_all rfl) (by dsimp only [pick, List.filterMap, List.getElem?_cons_succ, List.getElem?_cons_zero] <;> exact rfl) ?_)
local macro_rules | `(tactic| infer_instance) => `(tactic| with_reducible refine free_ok (by with_unfolding_all rfl) ?_)
local macro_rules | `(tactic| infer_instance) => `(tactic| with_reducible refine ty_ok (by with_unfolding_all rfl) ?_)
local macro_rules | `(tactic| infer_instance) => `(tactic| (with_reducible refine g_chq ?_; first | with_reducible refine ch_lt ?_ | with_reducible refine ch_le ?_))
local macro_rules | `(tactic| infer_instance) => `(tactic| (with_reducible refine g_sl1 ?_; first | with_reducible refine s1_T ?_ | with_reducible refine s1_L ?_))
local macro_rules | `(tactic| infer_instance) => `(tactic| (with_reducible refine g_op1 ?_; first | with_reducible refine v_revT ?_ | with_reducible refine v_revL ?_ | with_reducible refine o_isi_t (by with_unfolding_all rfl) ?_ | with_reducible refine o_isi_f (by with_unfolding_all rfl) ?_))
local macro_rules | `(tactic| infer_instance) => `(tactic| (with_reducible refine g_sq1 ?_; first | with_reducible refine sq_S ?_ | with_reducible refine sq_T ?_ | with_reducible refine sq_L ?_))
local macro_rules | `(tactic| infer_instance) => `(tactic| with_reducible refine isI_ok ?_)
local macro_rules | `(tactic| infer_instance) => `(tactic| (with_reducible refine g_mtk ?_; first | with_reducible refine v_appB (by with_unfolding_all rfl) (by simp only [List.length_map, List.length_append, List.length_cons, List.length_nil, List.length_range, List.length_take, sizeLine_eq]; omega) (by (try (show List.set (_ :: _) _ _ = _)); dsimp only [List.set] <;> exact rfl) ?_ | with_reducible refine v_app (by with_unfolding_all rfl) (by simp only [List.length_map, List.length_append, List.length_cons, List.length_nil, List.length_range, List.length_take, sizeLine_eq]; omega) (by (try (show List.set (_ :: _) _ _ = _)); dsimp only [List.set] <;> exact rfl) ?_))
local macro_rules | `(tactic| infer_instance) => `(tactic| (with_reducible refine g_ret1 ?_; first | with_reducible refine ret_nl (by first | (dsimp only [pbs, setOc, List.getElem?_cons_succ, List.getElem?_cons_zero, List.set] <;> exact rfl) | exact rfl) ?_ | with_reducible refine ret_d (by first | (dsimp only [pbs, setOc, List.getElem?_cons_succ, List.getElem?_cons_zero, List.set] <;> exact rfl) | exact rfl) ?_))
local macro_rules | `(tactic| infer_instance) => `(tactic| with_reducible refine callq_ok (by with_unfolding_all rfl) ?_)
local macro_rules | `(tactic| infer_instance) => `(tactic| (with_reducible refine g_stoAll ?_; first | with_reducible refine sa_cons (by with_unfolding_all rfl) ?_ | with_reducible refine sa_nil ?_))
local macro_rules | `(tactic| infer_instance) => `(tactic| (with_reducible refine g_sto ?_; first | with_reducible refine v_sto_al (by with_unfolding_all rfl) (by (try (show List.set (_ :: _) _ _ = _)); dsimp only [List.set] <;> exact rfl) (by with_unfolding_all first | exact rfl | assumption | exact fr_nb (by assumption)) (by (try (show List.set (_ :: _) _ _ = _)); dsimp only [List.set] <;> exact rfl) ?_ | with_reducible refine v_sto_nl (by with_unfolding_all first | exact rfl | assumption | exact fr_nb (by assumption)) (by (try (show List.set (_ :: _) _ _ = _)); dsimp only [List.set] <;> exact rfl) ?_ | with_reducible refine v_sto_d (by with_unfolding_all first | exact rfl | assumption | exact fr_nb (by assumption)) (by (try (show List.set (_ :: _) _ _ = _)); dsimp only [List.set] <;> exact rfl) ?_))
local macro_rules | `(tactic| infer_instance) => `(tactic| (with_reducible refine g_tg1 ?_; first | with_reducible refine t_pair (by with_unfolding_all first | exact rfl | assumption | exact fr_nb (by assumption)) (by (try (show List.set (_ :: _) _ _ = _)); dsimp only [List.set] <;> exact rfl) (by with_unfolding_all first | exact rfl | assumption | exact fr_nb (by assumption)) (by (try (show List.set (_ :: _) _ _ = _)); dsimp only [List.set] <;> exact rfl) ?_ | with_reducible refine t_name (by with_unfolding_all first | exact rfl | assumption | exact fr_nb (by assumption)) (by (try (show List.set (_ :: _) _ _ = _)); dsimp only [List.set] <;> exact rfl) ?_))
local macro_rules | `(tactic| infer_instance) => `(tactic| (with_reducible refine g_endq ?_; first | with_reducible refine en_rt ?_ | with_reducible refine en_bk ?_ | with_reducible refine en_ct ?_ | with_reducible refine en_nx ?_))
local macro_rules | `(tactic| infer_instance) => `(tactic| (with_reducible refine g_retq ?_; first | with_reducible refine rq_al (by with_unfolding_all rfl) (by first | (dsimp only [outl, outDV, List.getElem?_cons_succ, List.getElem?_cons_zero] <;> exact rfl) | exact rfl) ?_ | with_reducible refine rq_nl (by first | (dsimp only [outl, outDV, List.getElem?_cons_succ, List.getElem?_cons_zero] <;> exact rfl) | exact rfl) ?_ | with_reducible refine rq_d (by first | (dsimp only [outl, outDV, List.getElem?_cons_succ, List.getElem?_cons_zero] <;> exact rfl) | exact rfl) ?_ | with_reducible refine rq_nx (by first | (dsimp only [outl, outDV, List.getElem?_cons_succ, List.getElem?_cons_zero] <;> exact rfl) | exact rfl) ?_))
local macro_rules | `(tactic| infer_instance) => `(tactic| (with_reducible refine g_opn ?_; first | with_reducible refine n_tupT ?_ | with_reducible refine n_tupL ?_ | with_reducible refine n_lstT ?_ | with_reducible refine n_lstL ?_ | with_reducible refine n_min2 ?_ | with_reducible refine n_max2 ?_ | with_reducible refine n_intB ?_ | with_reducible refine n_intI ?_ | with_reducible refine n_lenT ?_ | with_reducible refine n_lenL ?_))
local macro_rules | `(tactic| infer_instance) => `(tactic| (with_reducible refine g_argq ?_; first | with_reducible refine aq_brw (by with_unfolding_all rfl) ?_ | with_reducible refine aq_own (by with_unfolding_all rfl) ?_ | with_reducible refine aq_nl ?_ | with_reducible refine aq_d ?_ | with_reducible refine aq_nil ?_))
local macro_rules | `(tactic| infer_instance) => `(tactic| (with_reducible refine g_lks ?_; first | with_reducible refine l_cons ?_ | with_reducible refine l_nil ?_))
local macro_rules | `(tactic| infer_instance) => `(tactic| (with_reducible refine g_wpO ?_; first | with_reducible refine v_oS ?_ | with_reducible refine w_oN ?_))
local macro_rules | `(tactic| infer_instance) => `(tactic| (with_reducible refine g_wpA ?_; first | with_reducible refine w_acons ?_ | with_reducible refine w_anil ?_))
local macro_rules | `(tactic| infer_instance) => `(tactic| (with_reducible refine g_wpDs ?_; first | with_reducible refine w_seqI ?_ | with_reducible refine w_range2 ?_ | with_reducible refine w_range1 ?_ | with_reducible refine w_dcons ?_ | with_reducible refine w_dnil ?_))
local macro_rules | `(tactic| infer_instance) => `(tactic| with_reducible refine if_no (by with_unfolding_all rfl) ?_)
local macro_rules | `(tactic| infer_instance) => `(tactic| with_reducible refine if_yes (by with_unfolding_all rfl) ?_)
local macro_rules | `(tactic| infer_instance) => `(tactic| with_reducible refine isB_ok ?_)
local macro_rules | `(tactic| infer_instance) => `(tactic| (with_reducible refine g_wpT ?_; first | with_reducible refine w_yes ?_ | with_reducible refine w_Not ?_ | with_reducible refine w_Or ?_ | with_reducible refine w_And ?_ | with_reducible refine v_B ?_))
local macro_rules | `(tactic| infer_instance) => `(tactic| with_reducible refine w_F ?_)
local macro_rules | `(tactic| infer_instance) => `(tactic| (with_reducible refine g_fz1 ?_; first | with_reducible refine v_fz_ownM (by with_unfolding_all rfl) (by (try (show List.set (_ :: _) _ _ = _)); dsimp only [List.set] <;> exact rfl) ?_ | with_reducible refine v_fz_ownL (by with_unfolding_all rfl) (by (try (show List.set (_ :: _) _ _ = _)); dsimp only [List.set] <;> exact rfl) ?_ | with_reducible refine fz_nlM' ?_ | with_reducible refine fz_nlL' ?_ | with_reducible refine fz_d' ?_))
local macro_rules | `(tactic| infer_instance) => `(tactic| (with_reducible refine g_op2 ?_; first | with_reducible refine o_eqS_same ?_ | with_reducible refine o_notinSS ?_ | with_reducible refine o_inSS ?_ | with_reducible refine o_neI ?_ | with_reducible refine o_eqI ?_ | with_reducible refine o_neS_same ?_ | with_reducible refine o_neS ?_ | with_reducible refine o_eqS ?_ | with_reducible refine o_mod (by with_unfolding_all decide) ?_ | with_reducible refine o_pow (by with_unfolding_all decide) ?_ | with_reducible refine o_ixT (by with_unfolding_all rfl) ?_ | with_reducible refine o_ixL (by with_unfolding_all rfl) ?_ | with_reducible refine o_ge ?_ | with_reducible refine o_gt ?_ | with_reducible refine o_le ?_ | with_reducible refine o_lt ?_ | with_reducible refine o_sub ?_ | with_reducible refine o_addI ?_))
local macro_rules | `(tactic| infer_instance) => `(tactic| (with_reducible refine g_lkq ?_; first | with_reducible refine v_lk_brwM (by with_unfolding_all rfl) ?_ | with_reducible refine v_lk_ownM (by with_unfolding_all rfl) ?_ | with_reducible refine v_lk_nlM ?_ | with_reducible refine lk_brwL (by with_unfolding_all rfl) ?_ | with_reducible refine lk_ownL (by with_unfolding_all rfl) ?_ | with_reducible refine lk_nlL ?_ | with_reducible refine lk_d ?_))
local macro_rules | `(tactic| infer_instance) => `(tactic| (with_reducible refine g_wpS ?_; first | with_reducible refine v_parN ?_ | with_reducible refine v_par3 ?_ | with_reducible refine v_par2 ?_ | with_reducible refine w_put ?_ | with_reducible refine w_asg ?_ | with_reducible refine w_set ?_ | with_reducible refine w_ifS ?_ | with_reducible refine w_retN ?_ | with_reducible refine w_ret ?_ | with_reducible refine w_drop ?_ | with_reducible refine w_ct ?_ | with_reducible refine w_bk ?_ | with_reducible refine w_nx ?_ | with_reducible refine w_seq ?_))
local macro_rules | `(tactic| infer_instance) => `(tactic| (with_reducible refine g_wpE ?_; first | with_reducible refine v_dic0 ?_ | with_reducible refine v_mq ?_ | with_reducible refine v_chain ?_ | with_reducible refine v_fn (by with_unfolding_all rfl) (by with_unfolding_all rfl) (by dsimp only [Nat.reduceSub, List.replicate, List.cons_append, List.nil_append] <;> exact rfl) ?_ | with_reducible refine v_mtL (by with_unfolding_all rfl) ?_ | with_reducible refine v_callK ?_ | with_reducible refine v_call ?_ | with_reducible refine w_NotV ?_ | with_reducible refine w_OrV ?_ | with_reducible refine w_AndV ?_ | with_reducible refine w_sl ?_ | with_reducible refine w_varB (by with_unfolding_all rfl) ?_ | with_reducible refine w_varO (by with_unfolding_all rfl) ?_ | with_reducible refine w_var (by with_unfolding_all rfl) ?_ | with_reducible refine v_tup ?_ | with_reducible refine v_lst ?_ | with_reducible refine w_If ?_ | with_reducible refine w_c ?_ | with_reducible refine w_m2 ?_ | with_reducible refine w_m1 ?_ | with_reducible refine w_callN ?_))
theorem nameS_len {z : Str} (h : nameS z = true) : z.length ≤ 8 := by
  unfold nameS at h
  simp at h
  exact h.1.1.2
/-! ### small data -/
def SmS (z : Str) : Prop := z.length ≤ 17 ∧ PyData.strOk z = true
def SmL : D → Prop
  | .none => True
  | .bool _ => True
  | .int i => i = 0 ∨ i = 5
  | .str z => SmS z
  | _ => False
def SmD : Nat → D → Prop
  | 0, d => SmL d
  | k + 1, d => match d with
    | .tuple ds => ds.length ≤ 15 ∧ ∀ d ∈ ds, SmD k d
    | .list ds => ds.length ≤ 15 ∧ ∀ d ∈ ds, SmD k d
    | d => SmL d
theorem sm_good : ∀ {k : Nat} {d : D}, SmD k d → GoodD k d
  | 0, d, h => by
    cases d with
    | str z => exact ⟨Nat.le_trans h.1 (by decide), h.2⟩
    | none => exact True.intro
    | bool _ => exact True.intro
    | int _ => exact True.intro
    | _ => exact h.elim
  | k + 1, .tuple ds, h => ⟨Nat.le_trans h.1 (by decide), fun d hd => sm_good (h.2 d hd)⟩
  | k + 1, .list ds, h => ⟨Nat.le_trans h.1 (by decide), fun d hd => sm_good (h.2 d hd)⟩
  | k + 1, .none, h => True.intro
  | k + 1, .bool _, h => True.intro
  | k + 1, .int _, h => True.intro
  | k + 1, .str _, h => ⟨Nat.le_trans h.1 (by decide), h.2⟩
  | k + 1, .dict _, h => h.elim
theorem shows_of {d : D} (h1 : d.canLay0 = true) (h2 : d.depth ≤ 64) (h3 : d.intsShort 13 = true) (h4 : d.showable = true) (h5 : d.weight ≤ 2 ^ 20) : showsD d = true := by
  unfold showsD
  have hl : PyData.layable0 d = true := by
    show (PyData.canLay0 d && decide (PyData.depth d ≤ 64) && decide (PyData.weight d ≤ 2 ^ 20)) = true
    rw [h1, decide_eq_true h2, decide_eq_true h5]
    rfl
  have := shown_le13 hl h3
  rw [shaped_of h1 h2, h4, decide_eq_true (show d.shown.length ≤ sizeLine by rw [sizeLine_eq]; omega)]
  rfl
theorem n_reprE {d : D} {K : RV → Prop} (h : showsD d = true) (q : K (.d (.str d.shown))) : opn gReprE [d] K := by
  refine ⟨.d (.str d.shown), ?_, q⟩
  have h1 : gReprZ [d] = some (.d (.str d.shown)) := if_pos (showsZ_of h)
  cases d with
  | dict kvs => cases kvs <;> first | rfl | exact h1
  | _ => exact h1
theorem nameS_ok {z : Str} (h : nameS z = true) : PyData.strOk z = true := by
  unfold PyData.strOk
  rw [Array.all_eq_true_iff_forall_mem]
  intro c hc
  unfold nameS at h
  simp only [Bool.and_eq_true, List.all_eq_true] at h
  have := h.2 c (Array.mem_toList_iff.mpr hc)
  have k1 : ∀ c ∈ lett.cps.toList, c < 0x110000 := by decide +kernel
  have k2 : ∀ c ∈ digs.cps.toList, c < 0x110000 := by decide +kernel
  unfold lowB digB at this
  rw [Bool.or_eq_true, decide_eq_true_eq, decide_eq_true_eq] at this
  rw [decide_eq_true_eq]
  exact this.elim (k1 c) (k2 c)

theorem sm_str {k : Nat} {z : Str} (h : SmS z) : SmD k (.str z) := by cases k <;> exact h
theorem sm_tup {k : Nat} {ds : List D} (h1 : ds.length ≤ 15) (h2 : ∀ d ∈ ds, SmD k d) : SmD (k + 1) (.tuple ds) := ⟨h1, h2⟩
theorem al_nil {P : D → Prop} : ∀ d ∈ ([] : List D), P d := nofun
theorem al_cons {P : D → Prop} {d : D} {ds : List D} (h : P d) (hs : ∀ d ∈ ds, P d) : ∀ x ∈ d :: ds, P x := fun x hx => by
  rcases List.mem_cons.mp hx with rfl | hx
  · exact h
  · exact hs x hx
theorem n_str {i : Int} {K : RV → Prop} (h : i.natAbs.log2 < 1920) (q : K (.d (.str (toString i : String)))) : opn gStr [.int i] K := ⟨_, if_pos h, q⟩
end PK

namespace PK
open PySem PySem.Spec PyProof.Rows L2 PL
variable [TheW]
local macro_rules | `(tactic| infer_instance) => `(tactic| dsimp only)
local macro_rules | `(tactic| infer_instance) => `(tactic| with_reducible refine le_ok (by with_unfolding_all rfl) ?_)
local macro_rules | `(tactic| infer_instance) => `(tactic| with_reducible refine pick_ok (by with_unfolding_all rfl) (by dsimp only [pick, List.filterMap, List.getElem?_cons_succ, List.getElem?_cons_zero] <;> exact rfl) ?_)
local macro_rules | `(tactic| infer_instance) => `(tactic| with_reducible refine free_ok (by with_unfolding_all rfl) ?_)
local macro_rules | `(tactic| infer_instance) => `(tactic| with_reducible refine ty_ok (by with_unfolding_all rfl) ?_)
local macro_rules | `(tactic| infer_instance) => `(tactic| (with_reducible refine g_chq ?_; first | with_reducible refine ch_lt ?_ | with_reducible refine ch_le ?_))
local macro_rules | `(tactic| infer_instance) => `(tactic| (with_reducible refine g_sl1 ?_; first | with_reducible refine s1_T ?_ | with_reducible refine s1_L ?_))
local macro_rules | `(tactic| infer_instance) => `(tactic| (with_reducible refine g_op1 ?_; first | with_reducible refine v_revT ?_ | with_reducible refine v_revL ?_ | with_reducible refine o_isi_t (by with_unfolding_all rfl) ?_ | with_reducible refine o_isi_f (by with_unfolding_all rfl) ?_))
local macro_rules | `(tactic| infer_instance) => `(tactic| (with_reducible refine g_sq1 ?_; first | with_reducible refine sq_S ?_ | with_reducible refine sq_T ?_ | with_reducible refine sq_L ?_))
local macro_rules | `(tactic| infer_instance) => `(tactic| with_reducible refine isI_ok ?_)
local macro_rules | `(tactic| infer_instance) => `(tactic| (with_reducible refine g_mtk ?_; first | with_reducible refine v_appB (by with_unfolding_all rfl) (by simp only [List.length_map, List.length_append, List.length_cons, List.length_nil, List.length_range, List.length_take, sizeLine_eq]; omega) (by (try (show List.set (_ :: _) _ _ = _)); dsimp only [List.set] <;> exact rfl) ?_ | with_reducible refine v_app (by with_unfolding_all rfl) (by simp only [List.length_map, List.length_append, List.length_cons, List.length_nil, List.length_range, List.length_take, sizeLine_eq]; omega) (by (try (show List.set (_ :: _) _ _ = _)); dsimp only [List.set] <;> exact rfl) ?_))
local macro_rules | `(tactic| infer_instance) => `(tactic| (with_reducible refine g_ret1 ?_; first | with_reducible refine ret_nl (by first | (dsimp only [pbs, setOc, List.getElem?_cons_succ, List.getElem?_cons_zero, List.set] <;> exact rfl) | exact rfl) ?_ | with_reducible refine ret_d (by first | (dsimp only [pbs, setOc, List.getElem?_cons_succ, List.getElem?_cons_zero, List.set] <;> exact rfl) | exact rfl) ?_))
local macro_rules | `(tactic| infer_instance) => `(tactic| with_reducible refine callq_ok (by with_unfolding_all rfl) ?_)
local macro_rules | `(tactic| infer_instance) => `(tactic| (with_reducible refine g_stoAll ?_; first | with_reducible refine sa_cons (by with_unfolding_all rfl) ?_ | with_reducible refine sa_nil ?_))
local macro_rules | `(tactic| infer_instance) => `(tactic| (with_reducible refine g_sto ?_; first | with_reducible refine v_sto_al (by with_unfolding_all rfl) (by (try (show List.set (_ :: _) _ _ = _)); dsimp only [List.set] <;> exact rfl) (by with_unfolding_all first | exact rfl | assumption | exact fr_nb (by assumption)) (by (try (show List.set (_ :: _) _ _ = _)); dsimp only [List.set] <;> exact rfl) ?_ | with_reducible refine v_sto_nl (by with_unfolding_all first | exact rfl | assumption | exact fr_nb (by assumption)) (by (try (show List.set (_ :: _) _ _ = _)); dsimp only [List.set] <;> exact rfl) ?_ | with_reducible refine v_sto_d (by with_unfolding_all first | exact rfl | assumption | exact fr_nb (by assumption)) (by (try (show List.set (_ :: _) _ _ = _)); dsimp only [List.set] <;> exact rfl) ?_))
local macro_rules | `(tactic| infer_instance) => `(tactic| (with_reducible refine g_tg1 ?_; first | with_reducible refine t_triple (by with_unfolding_all first | exact rfl | assumption | exact fr_nb (by assumption)) (by (try (show List.set (_ :: _) _ _ = _)); dsimp only [List.set] <;> exact rfl) (by with_unfolding_all first | exact rfl | assumption | exact fr_nb (by assumption)) (by (try (show List.set (_ :: _) _ _ = _)); dsimp only [List.set] <;> exact rfl) (by with_unfolding_all first | exact rfl | assumption | exact fr_nb (by assumption)) (by (try (show List.set (_ :: _) _ _ = _)); dsimp only [List.set] <;> exact rfl) ?_ | with_reducible refine t_pair (by with_unfolding_all first | exact rfl | assumption | exact fr_nb (by assumption)) (by (try (show List.set (_ :: _) _ _ = _)); dsimp only [List.set] <;> exact rfl) (by with_unfolding_all first | exact rfl | assumption | exact fr_nb (by assumption)) (by (try (show List.set (_ :: _) _ _ = _)); dsimp only [List.set] <;> exact rfl) ?_ | with_reducible refine t_name (by with_unfolding_all first | exact rfl | assumption | exact fr_nb (by assumption)) (by (try (show List.set (_ :: _) _ _ = _)); dsimp only [List.set] <;> exact rfl) ?_))
local macro_rules | `(tactic| infer_instance) => `(tactic| (with_reducible refine g_endq ?_; first | with_reducible refine en_rt ?_ | with_reducible refine en_bk ?_ | with_reducible refine en_ct ?_ | with_reducible refine en_nx ?_))
local macro_rules | `(tactic| infer_instance) => `(tactic| (with_reducible refine g_retq ?_; first | with_reducible refine rq_al (by with_unfolding_all rfl) (by first | (dsimp only [outl, outDV, List.getElem?_cons_succ, List.getElem?_cons_zero] <;> exact rfl) | exact rfl) ?_ | with_reducible refine rq_nl (by first | (dsimp only [outl, outDV, List.getElem?_cons_succ, List.getElem?_cons_zero] <;> exact rfl) | exact rfl) ?_ | with_reducible refine rq_d (by first | (dsimp only [outl, outDV, List.getElem?_cons_succ, List.getElem?_cons_zero] <;> exact rfl) | exact rfl) ?_ | with_reducible refine rq_nx (by first | (dsimp only [outl, outDV, List.getElem?_cons_succ, List.getElem?_cons_zero] <;> exact rfl) | exact rfl) ?_))
local macro_rules | `(tactic| infer_instance) => `(tactic| (with_reducible refine g_opn ?_; first | with_reducible refine n_tupT ?_ | with_reducible refine n_tupL ?_ | with_reducible refine n_lstT ?_ | with_reducible refine n_lstL ?_ | with_reducible refine n_min2 ?_ | with_reducible refine n_max2 ?_ | with_reducible refine n_intB ?_ | with_reducible refine n_intI ?_ | with_reducible refine n_lenT ?_ | with_reducible refine n_lenL ?_))
local macro_rules | `(tactic| infer_instance) => `(tactic| (with_reducible refine g_argq ?_; first | with_reducible refine aq_brw (by with_unfolding_all rfl) ?_ | with_reducible refine aq_own (by with_unfolding_all rfl) ?_ | with_reducible refine aq_nl ?_ | with_reducible refine aq_d ?_ | with_reducible refine aq_nil ?_))
local macro_rules | `(tactic| infer_instance) => `(tactic| (with_reducible refine g_lks ?_; first | with_reducible refine l_cons ?_ | with_reducible refine l_nil ?_))
local macro_rules | `(tactic| infer_instance) => `(tactic| (with_reducible refine g_wpO ?_; first | with_reducible refine v_oS ?_ | with_reducible refine w_oN ?_))
local macro_rules | `(tactic| infer_instance) => `(tactic| (with_reducible refine g_wpA ?_; first | with_reducible refine w_acons ?_ | with_reducible refine w_anil ?_))
local macro_rules | `(tactic| infer_instance) => `(tactic| (with_reducible refine g_wpDs ?_; first | with_reducible refine w_seqI ?_ | with_reducible refine w_range2 ?_ | with_reducible refine w_range1 ?_ | with_reducible refine w_dcons ?_ | with_reducible refine w_dnil ?_))
local macro_rules | `(tactic| infer_instance) => `(tactic| with_reducible refine if_no (by with_unfolding_all rfl) ?_)
local macro_rules | `(tactic| infer_instance) => `(tactic| with_reducible refine if_yes (by with_unfolding_all rfl) ?_)
local macro_rules | `(tactic| infer_instance) => `(tactic| with_reducible refine isB_ok ?_)
local macro_rules | `(tactic| infer_instance) => `(tactic| (with_reducible refine g_wpT ?_; first | with_reducible refine w_yes ?_ | with_reducible refine w_Not ?_ | with_reducible refine w_Or ?_ | with_reducible refine w_And ?_ | with_reducible refine v_B ?_))
local macro_rules | `(tactic| infer_instance) => `(tactic| with_reducible refine w_F ?_)
local macro_rules | `(tactic| infer_instance) => `(tactic| (with_reducible refine g_fz1 ?_; first | with_reducible refine v_fz_ownM (by with_unfolding_all rfl) (by (try (show List.set (_ :: _) _ _ = _)); dsimp only [List.set] <;> exact rfl) ?_ | with_reducible refine v_fz_ownL (by with_unfolding_all rfl) (by (try (show List.set (_ :: _) _ _ = _)); dsimp only [List.set] <;> exact rfl) ?_ | with_reducible refine fz_nlM' ?_ | with_reducible refine fz_nlL' ?_ | with_reducible refine fz_d' ?_))
local macro_rules | `(tactic| infer_instance) => `(tactic| (with_reducible refine g_op2 ?_; first | with_reducible refine o_eqS_same ?_ | with_reducible refine o_notinSS ?_ | with_reducible refine o_inSS ?_ | with_reducible refine o_neI ?_ | with_reducible refine o_eqI ?_ | with_reducible refine o_neS_same ?_ | with_reducible refine o_neS ?_ | with_reducible refine o_eqS ?_ | with_reducible refine o_mod (by with_unfolding_all decide) ?_ | with_reducible refine o_pow (by with_unfolding_all decide) ?_ | with_reducible refine o_ixT (by with_unfolding_all rfl) ?_ | with_reducible refine o_ixL (by with_unfolding_all rfl) ?_ | with_reducible refine o_ge ?_ | with_reducible refine o_gt ?_ | with_reducible refine o_le ?_ | with_reducible refine o_lt ?_ | with_reducible refine o_sub ?_ | with_reducible refine o_addI ?_))
local macro_rules | `(tactic| infer_instance) => `(tactic| (with_reducible refine g_lkq ?_; first | with_reducible refine v_lk_brwM (by with_unfolding_all rfl) ?_ | with_reducible refine v_lk_ownM (by with_unfolding_all rfl) ?_ | with_reducible refine v_lk_nlM ?_ | with_reducible refine lk_brwL (by with_unfolding_all rfl) ?_ | with_reducible refine lk_ownL (by with_unfolding_all rfl) ?_ | with_reducible refine lk_nlL ?_ | with_reducible refine lk_d ?_))
local macro_rules | `(tactic| infer_instance) => `(tactic| (with_reducible refine g_wpS ?_; first | with_reducible refine v_parN ?_ | with_reducible refine v_par3 ?_ | with_reducible refine v_par2 ?_ | with_reducible refine w_put ?_ | with_reducible refine w_asg ?_ | with_reducible refine w_set ?_ | with_reducible refine w_ifS ?_ | with_reducible refine w_retN ?_ | with_reducible refine w_ret ?_ | with_reducible refine w_drop ?_ | with_reducible refine w_ct ?_ | with_reducible refine w_bk ?_ | with_reducible refine w_nx ?_ | with_reducible refine w_seq ?_))
local macro_rules | `(tactic| infer_instance) => `(tactic| (with_reducible refine g_wpE ?_; first | with_reducible refine w_of ?_ | with_reducible refine v_dic0 ?_ | with_reducible refine v_mq ?_ | with_reducible refine v_chain ?_ | with_reducible refine v_fn (by with_unfolding_all rfl) (by with_unfolding_all rfl) (by dsimp only [Nat.reduceSub, List.replicate, List.cons_append, List.nil_append] <;> exact rfl) ?_ | with_reducible refine v_mtL (by with_unfolding_all rfl) ?_ | with_reducible refine v_callK ?_ | with_reducible refine v_call ?_ | with_reducible refine w_NotV ?_ | with_reducible refine w_OrV ?_ | with_reducible refine w_AndV ?_ | with_reducible refine w_sl ?_ | with_reducible refine w_varB (by with_unfolding_all rfl) ?_ | with_reducible refine w_varO (by with_unfolding_all rfl) ?_ | with_reducible refine w_var (by with_unfolding_all rfl) ?_ | with_reducible refine v_tup ?_ | with_reducible refine v_lst ?_ | with_reducible refine w_If ?_ | with_reducible refine w_c ?_ | with_reducible refine w_m2 ?_ | with_reducible refine w_m1 ?_ | with_reducible refine w_callN ?_))
/-! ### V1: webs and halls as data; a place's neighbours -/
inductive Rl where
  | keep | least | greatest | odd
  | most (n : Nat)
  | copy (z : Str)
  | table (t : List Nat)
  | sum (t : List (List Nat))
abbrev nD (n : Nat) : D := PyData.int (n : Int)
def RlOk (k : Nat) (others : List Str) : Rl → Prop
  | .most n => n ≤ 9
  | .copy z => z ∈ others
  | .table t => t.length = k ^ (others.length + 1) ∧ ∀ x ∈ t, x < k
  | .sum t => t.length = k ∧ ∀ r ∈ t, r.length = others.length * (k - 1) + 1 ∧ ∀ x ∈ r, x < k
  | _ => True
def SortOk (sort : Str) (r : Rl) : Prop :=
  (sort = "quiet" → ∃ n, r = .most n) ∧ (sort = "adding" → r = .keep ∨ r = .odd ∨ ∃ z, r = .copy z)
def nbs (ns : List Str) (rs : List (Str × Str)) (z : Str) : List Str := ns.filter fun o => decide ((z, o) ∈ rs) || decide ((o, z) ∈ rs)
abbrev webD (ns : List Str) (rs : List (Str × Str)) : D := .tuple [.tuple (ns.map .str), .tuple (rs.map sD)]
structure HallOk (k : Nat) (ns : List Str) (rs : List (Str × Str)) (rules : List Rl) : Prop where
  web : WebOk (fun z => nameS z = true) ns rs
  hk : k = 2 ∨ k = 3
  sz : k ^ ns.length ≤ 256
  rl : rules.length = ns.length
  ok : ∀ (i : Nat) (z : Str) (r : Rl), ns[i]? = some z → rules[i]? = some r → RlOk k (nbs ns rs z) r
theorem flat_sD {ns : List Str} {rs : List (Str × Str)} (W : WebOk (fun z => nameS z = true) ns rs) : Flat 1 (rs.map sD) := fun d hd => by
  obtain ⟨⟨a, b⟩, hp, rfl⟩ := List.mem_map.mp hd
  obtain ⟨ha, hb, _⟩ := W.en _ hp
  have h1 := nameS_ok (W.nm _ ha)
  have h2 := nameS_ok (W.nm _ hb)
  dsimp only at h1 h2
  simp [sD, PyData.canLay0, PyData.canLayAll0, PyData.depth, PyData.depthAll, h1, h2]
theorem any_sD (ps : List (Str × Str)) (q : Str × Str) : ((ps.map sD).any fun z => PyData.eqv z (sD q)) = decide (q ∈ ps) := by
  induction ps with
  | nil => rfl
  | cons p ps ih =>
    rw [List.map_cons, List.any_cons, ih]
    obtain ⟨a, b⟩ := p
    obtain ⟨c, d⟩ := q
    show ((a == c && (b == d && true)) || _) = _
    by_cases h1 : a = c
    · by_cases h2 : b = d
      · subst h1; subst h2; simp
      · have h2' : ¬ d = b := fun e => h2 e.symm
        simp [h1, h2, h2']
    · have h1' : ¬ c = a := fun e => h1 e.symm
      simp [h1, h1']
theorem nd_le {α : Type} [DecidableEq α] : ∀ {xs ys : List α}, xs.Nodup → (∀ x ∈ xs, x ∈ ys) → xs.length ≤ ys.length
  | [], _, _, _ => Nat.zero_le _
  | x :: xs, ys, nd, h => by
    obtain ⟨n1, n2⟩ := List.nodup_cons.mp nd
    have hx := h x List.mem_cons_self
    have := nd_le (ys := ys.erase x) n2 fun y hy => (List.mem_erase_of_ne (fun e => n1 (by rw [← e]; exact hy))).mpr (h y (List.mem_cons_of_mem _ hy))
    rw [List.length_erase_of_mem hx] at this
    have := List.length_pos_of_mem hx
    rw [List.length_cons]
    omega
theorem shaped_pair {a b : Str} (ha : nameS a = true) (hb : nameS b = true) : SeqAt.shaped (.tuple [.str a, .str b]) = true :=
  shaped_of (by simp [PyData.canLay0, PyData.canLayAll0, nameS_ok ha, nameS_ok hb]) (by simp [PyData.depth, PyData.depthAll])
theorem roads_shaped {ns : List Str} {rs : List (Str × Str)} (W : WebOk (fun z => nameS z = true) ns rs) : SeqAt.shaped (.tuple (rs.map sD)) = true := shaped_tup (flat_sD W) (by decide)
/-! ### V2: what the rules of each sort are; draws -/
def UndoOk (k : Nat) (others : List Str) : Rl → Prop
  | .odd => True
  | .keep => True
  | .least => others = []
  | .sum t => ∃ rows : List (List Nat), rows.length = others.length * (k - 1) + 1 ∧ (∀ r ∈ rows, r.Perm (List.range k)) ∧ t = (List.range k).map fun own => rows.map fun row => row.getD own 0
  | .table t => ∃ bs : List (List Nat), bs.length = k ^ others.length ∧ (∀ r ∈ bs, r.Perm (List.range k)) ∧ t = bs.flatten
  | _ => False
structure SortsOk (k : Nat) (others : List Str) (sort : Str) (r : Rl) : Prop where
  ok : RlOk k others r
  so : SortOk sort r
  un : sort = "undone" → UndoOk k others r
theorem ex_map {α : Type} {f : α → D} : ∀ {P : Nat → α → Prop} {ys : List D}, (∀ j y, ys[j]? = some y → ∃ x, P j x ∧ y = f x) → ∃ xs : List α, ys = xs.map f ∧ ∀ (j : Nat) (x : α), xs[j]? = some x → P j x
  | _, [], _ => ⟨[], rfl, fun j x e => by cases j <;> cases e⟩
  | P, y :: ys, h => by
    obtain ⟨x, hx, rfl⟩ := h 0 y rfl
    obtain ⟨xs, rfl, hxs⟩ := ex_map (P := fun j => P (j + 1)) (ys := ys) fun j z e => h (j + 1) z (by simpa using e)
    refine ⟨x :: xs, rfl, fun j z e => ?_⟩
    cases j with
    | zero => cases (show some x = some z from by simpa using e); exact hx
    | succ j => exact hxs j z (by simpa using e)
/-- a comprehension that draws: nothing but the feed changes -/
theorem v_cdrw {α : Type} {F : α → D} {xs : List α} {ρ : Ev} {g : MG} {t : MT} {m : MD} {vs : List Nat} {Q : RV → Ev → Prop} {a b c : Int} {n q : Nat} {E : OC → Ev} {P : Nat → D → Prop} (hW : wipeE ρ vs = E (fd a b c)) (F0 : FeedOk n a b c) (hl : xs.length ≤ 2 ^ 20)
    (step : ∀ (j : Nat) (x : α) (a b c : Int), xs[j]? = some x → j < xs.length → FeedOk (n + q * j) a b c → tg1 g (F x) (E (fd a b c)) fun ρ1 => wp t ρ1 fun b1 ρ2 => b1 = true ∧ wp m ρ2 fun y ρ3 => P j y ∧ ∃ a b c, wipeE ρ3 vs = E (fd a b c) ∧ FeedOk (n + q * j + q) a b c)
    (fin : ∀ (ys : List D) (a b c : Int), ys.length = xs.length → (∀ j y, ys[j]? = some y → P j y) → FeedOk (n + q * xs.length) a b c → Q (.nl (.L ys)) (uwl vs 0 ρ (E (fd a b c)))) : lcv g t m vs (xs.map F) ρ Q := by
  refine v_cinv hW (fun j acc ρ' => ∃ a b c, ρ' = E (fd a b c) ∧ FeedOk (n + q * j) a b c ∧ acc.length = j ∧ ∀ i y, acc[i]? = some y → P i y) ⟨a, b, c, rfl, by rw [Nat.mul_zero]; exact F0, rfl, fun i y e => by cases i <;> cases e⟩ ?_ ?_
  · rintro j d acc ρ' hj ⟨a, b, c, rfl, F1, hl1, hP⟩
    rw [List.getElem?_map] at hj
    obtain ⟨x, hj', rfl⟩ := Option.map_eq_some_iff.mp hj
    have hlt := (List.getElem?_eq_some_iff.mp hj').1
    obtain ⟨ρ1, e1, h⟩ := step j x a b c hj' hlt F1
    refine ⟨ρ1, e1, h.mono ?_⟩
    rintro b1 ρ2 ⟨rfl, h⟩
    refine if_t (h.mono ?_)
    rintro y ρ3 ⟨hy, a, b, c, e, F2⟩
    refine ⟨by rw [sizeLine_eq]; omega, _, e, a, b, c, rfl, by rw [Nat.mul_succ, ← Nat.add_assoc]; exact F2, by rw [List.length_append, hl1]; rfl, fun i z hz => ?_⟩
    by_cases hi : i < acc.length
    · rw [List.getElem?_append_left hi] at hz
      exact hP i z hz
    · have h1 := (List.getElem?_eq_some_iff.mp hz).1
      rw [List.length_append, List.length_singleton] at h1
      have : i = acc.length := by omega
      subst this
      rw [List.getElem?_concat_length] at hz
      cases hz
      rw [hl1]
      exact hy
  · rintro acc ρ' ⟨a, b, c, rfl, F1, hl1, hP⟩
    rw [List.length_map] at F1 hl1
    exact fin acc a b c hl1 hP F1
/-! ### V5: halls of up to six places -/
structure HallS (k : Nat) (ns : List Str) (rs : List (Str × Str)) (sort : Str) (rules : List Rl) : Prop where
  web : WebOk (fun z => nameS z = true) ns rs
  hk : k = 2 ∨ k = 3
  sz : k ^ ns.length ≤ 256
  rl : rules.length = ns.length
  so : ∀ (i : Nat) (z : Str) (r : Rl), ns[i]? = some z → rules[i]? = some r → SortsOk k (nbs ns rs z) sort r
  q2 : sort = "quiet" → k = 2
theorem HallS.ok {k : Nat} {ns : List Str} {rs : List (Str × Str)} {sort : Str} {rules : List Rl} (h : HallS k ns rs sort rules) : HallOk k ns rs rules :=
  ⟨h.web, h.hk, h.sz, h.rl, fun i z r a b => (h.so i z r a b).ok⟩
theorem web_mono {ns : List Str} {rs : List (Str × Str)} (W : WebOk (· ∈ pool12) ns rs) : WebOk (fun z => nameS z = true) ns rs := ⟨W.nd, fun z hz => pool_names z (W.nm z hz), W.l1, W.l2, W.rl, W.en, W.un⟩
/-! ### V7: great halls -/
def prs (m : Nat) : List (Int × Int) := (List.range m).flatMap fun a => (List.range a).map fun (b : Nat) => ((b : Int), (a : Int))
theorem prs_succ (m : Nat) : prs (m + 1) = prs m ++ (List.range m).map fun (b : Nat) => ((b : Int), (m : Int)) := by
  unfold prs
  rw [List.range_succ, List.flatMap_append]
  simp
theorem prs_mem {m : Nat} {p : Int × Int} (h : p ∈ prs m) : 0 ≤ p.1 ∧ p.1 < p.2 ∧ p.2 < m := by
  unfold prs at h
  obtain ⟨a, ha, h⟩ := List.mem_flatMap.mp h
  obtain ⟨b, hb, rfl⟩ := List.mem_map.mp h
  have := List.mem_range.mp ha
  have := List.mem_range.mp hb
  dsimp only
  omega
theorem prs_nodup : ∀ m, (prs m).Nodup
  | 0 => .nil
  | m + 1 => by
    rw [prs_succ, List.nodup_append]
    refine ⟨prs_nodup m, nodup_rg (f := fun (b : Nat) => ((b : Int), (m : Int))) fun x y hx hy e => by injection e with e1 e2; omega, fun p hp q hq e => ?_⟩
    subst e
    obtain ⟨b, hb, rfl⟩ := List.mem_map.mp hq
    have := (prs_mem hp).2.2
    dsimp only at this
    omega
theorem prs_len : ∀ m, (prs m).length ≤ m * m
  | 0 => Nat.le_refl _
  | m + 1 => by
    rw [prs_succ, List.length_append, List.length_map, List.length_range]
    have := prs_len m
    rw [Nat.mul_succ, Nat.succ_mul]
    omega
theorem any_strs (ns : List Str) (q : Str) : ((ns.map PyData.str).any fun z => PyData.eqv z (.str q)) = decide (q ∈ ns) := by
  induction ns with
  | nil => rfl
  | cons p ns ih =>
    rw [List.map_cons, List.any_cons, ih]
    show ((p == q) || _) = _
    by_cases h1 : p = q
    · subst h1; simp
    · have h1' : ¬ q = p := fun e => h1 e.symm
      simp [h1, h1']
theorem row_same (ds : List D) : rowB (.tuple ds) ds.length ds.length = true := by
  show (decide _ && decide _) = true
  simp
theorem web_good {ns : List Str} {rs : List (Str × Str)} (W : WebOk (fun z => nameS z = true) ns rs) : GoodD 3 (webD ns rs) := by
  have hst : ∀ z ∈ ns, SmS z := fun z hz => ⟨Nat.le_trans (nameS_len (W.nm z hz)) (by decide), nameS_ok (W.nm z hz)⟩
  have l2 := W.l2
  have rl := W.rl
  refine sm_good (sm_tup (Nat.le_of_ble_eq_true rfl) (al_cons (sm_tup (by rw [List.length_map]; omega) fun d hd => ?_) (al_cons (sm_tup (by rw [List.length_map]; omega) fun d hd => ?_) al_nil)))
  · obtain ⟨z, hz, rfl⟩ := List.mem_map.mp hd
    exact sm_str (hst z hz)
  · obtain ⟨r, hr, rfl⟩ := List.mem_map.mp hd
    exact sm_tup (ds := [.str r.1, .str r.2]) (Nat.le_of_ble_eq_true rfl) (al_cons (sm_str (hst _ (W.en r hr).1)) (al_cons (sm_str (hst _ (W.en r hr).2.1)) al_nil))
def numR (k : Nat) (l : List Nat) : Nat := l.foldl (fun f d => f * k + d) 0
def num (k : Nat) (xs : List Nat) : Nat := numR k xs.reverse
def dig (k : Nat) : Nat → Nat → List Nat
  | _, 0 => []
  | n, m + 1 => n % k :: dig k (n / k) m
def near (ns : List Str) (rs : List (Str × Str)) (z : Str) : List Nat := (nbs ns rs z).map fun o => ns.idxOf o
/-- next states by words -/
def nxw (k own : Nat) (others : List Nat) : Rl → Nat
  | .least => mnN (own :: others)
  | .greatest => mxN (own :: others)
  | .odd => (own + others.sum) % k
  | .most n => if n ≤ (others.filter fun x => decide (x ≠ 0)).length then 1 else 0
  | .sum t => (t.getD own []).getD others.sum 0
  | _ => own
theorem getD_of {α : Type} {xs : List α} {i : Nat} {d : α} (h : i < xs.length) : xs[i]? = some (xs.getD i d) := by
  rw [List.getD_eq_getElem?_getD, List.getElem?_eq_getElem h]
  rfl
def wd : Rl → Str
  | .keep => "keep" | .least => "least" | .greatest => "greatest" | .odd => "odd"
  | .most _ => "most" | .copy _ => "copy" | .table _ => "table" | .sum _ => "sum"
def nxd (k : Nat) (ns : List Str) (nr : List Nat) (r : Rl) (ds : List Nat) : Nat := match r with
  | .table t => t.getD (num k ds) 0
  | .copy z => ds.getD (1 + nr.idxOf (ns.idxOf z)) 0
  | r => nxw k (ds.getD 0 0) (ds.drop 1) r
structure TabOk (k : Nat) (ns : List Str) (nr : List Nat) (r : Rl) (T : List Nat) : Prop where
  len : T.length = k ^ (nr.length + 1)
  at_ : ∀ ds : List Nat, ds.length = nr.length + 1 → (∀ x ∈ ds, x < k) → T[num k ds]? = some (nxd k ns nr r ds)
theorem idx_lt {ns : List Str} {z : Str} (h : z ∈ ns) : ns.idxOf z < ns.length := List.idxOf_lt_length_of_mem h
def nx (k : Nat) (ns : List Str) (rs : List (Str × Str)) (rules : List Rl) (st : List Nat) (i : Nat) : Nat := match ns[i]?, rules[i]? with
  | some z, some r => nxd k ns (near ns rs z) r ((i :: near ns rs z).map fun j => st.getD j 0)
  | _, _ => 0
def ext1 (k : Nat) (s : List Nat) : List (List Nat) := (List.range k).map fun x => s ++ [x]
def sts (k : Nat) : Nat → List (List Nat)
  | 0 => [[]]
  | m + 1 => (sts k m).flatMap (ext1 k)
/-- a state that stays -/
def stay (k : Nat) (ns : List Str) (rs : List (Str × Str)) (rules : List Rl) (st : List Nat) : Bool := (List.range ns.length).all fun i => nx k ns rs rules st i == st.getD i 0
/-! ### V13: the law's own next states and states; what is shown -/
theorem idx_at {ns : List Str} {i : Nat} {z : Str} (nd : ns.Nodup) (h : ns[i]? = some z) : ns.idxOf z = i := by
  obtain ⟨hl, e⟩ := List.getElem?_eq_some_iff.mp h
  have hm : z ∈ ns := List.mem_of_getElem? h
  have h2 := idx_lt hm
  have e2 : ns[ns.idxOf z] = z := List.getElem_idxOf h2
  have p := List.pairwise_iff_getElem.mp nd
  rcases Nat.lt_trichotomy (ns.idxOf z) i with h3 | h3 | h3
  · exact absurd (e2.trans e.symm) (p _ _ h2 hl h3)
  · exact h3
  · exact absurd (e.trans e2.symm) (p _ _ hl h2 h3)
theorem free_of {ρ : Ev} {i : Nat} {x : DV} (e : ρ[i]? = some x) (h : fr x = true) : freeE ρ [i] = true := by
  unfold freeE
  cases x with
  | un => simp [e]
  | v d => simp [e]
  | _ => cases h

def stp (k : Nat) (ns : List Str) (rs : List (Str × Str)) (rules : List Rl) (st : List Nat) (i : Nat) : List Nat := st.set i (nx k ns rs rules st i)
section
variable {k : Nat} {ns : List Str} {rs : List (Str × Str)} {rules : List Rl}
abbrev ordD (ord : List Str) : D := .tuple (ord.map .str)
def oix (ns ord : List Str) : List Nat := ord.map fun z => ns.idxOf z
structure OrdOk (ns ord : List Str) : Prop where
  pm : ord.Perm ns
theorem OrdOk.ix (O : OrdOk ns ord) : ∀ i ∈ oix ns ord, i < ns.length := fun i h => by
  obtain ⟨z, hz, rfl⟩ := List.mem_map.mp h
  exact idx_lt (O.pm.mem_iff.mp hz)
theorem e_need_order {ord : List Str} (H : HallOk k ns rs rules) (O : OrdOk ns ord) {Q : RV → Ev → Prop}
    (kq : Q (.d .none) [.v (webD ns rs), .v (ordD ord)]) : wp fm_need_order [.v (webD ns rs), .v (ordD ord)] Q := by
  have hl8 := H.web.l2
  have ol := O.pm.length_eq
  unfold fm_need_order ms_need_order
  repeat infer_instance
  unfold fm_is_order ms_is_order
  repeat infer_instance
  refine e_row_of ?_
  rw [List.length_map, show rowB (ordD ord) (ns.length : Int) (ns.length : Int) = true by have := row_same (ord.map PyData.str); rw [List.length_map, ol] at this; exact this]
  repeat infer_instance
  refine e_are_places (k := 1) (fun z hz => nameS_ok (H.web.nm z hz)) (fun d hd => ?_) (by decide) (by rw [List.length_map]; omega) ?_
  · obtain ⟨z, hz, rfl⟩ := List.mem_map.mp hd
    have := H.web.nm z (O.pm.mem_iff.mp hz)
    exact sm_good (k := 1) (sm_str ⟨Nat.le_trans (nameS_len this) (by decide), nameS_ok this⟩)
  · rw [show placesB ns (ord.map .str) = true by
      unfold placesB
      rw [PL.strs_map]
      show (ord.all _ && decide _) = true
      rw [Bool.and_eq_true]
      exact ⟨List.all_eq_true.mpr fun z hz => decide_eq_true (O.pm.mem_iff.mp hz), decide_eq_true (O.pm.nodup_iff.mpr H.web.nd)⟩]
    repeat infer_instance
    exact kq
theorem en_range {α : Type} {F : α → D} {xs : List α} {d : α} : enumD (xs.map F) = (List.range xs.length).map fun (i : Nat) => PyData.tuple [.int i, F (xs.getD i d)] := by
  refine List.ext_getElem? fun i => ?_
  unfold enumD
  rw [List.getElem?_mapIdx, List.getElem?_map, List.getElem?_map]
  by_cases hi : i < xs.length
  · rw [List.getElem?_range hi, getD_of (d := d) hi]
    rfl
  · rw [List.getElem?_eq_none (by omega), List.getElem?_eq_none (by rw [List.length_range]; omega)]
    rfl
end

/-! ### V17: the law's days; halls without roads -/
section
variable {k : Nat} {ns : List Str} {rs : List (Str × Str)} {rules : List Rl}
theorem e_law_order {n : Nat} {a b c : Int} (F : FeedOk n a b c) (hn : n + 1000 < 10 ^ 9) (h8 : ns.length ≤ 8) {Q : RV → Ev → Prop}
    (kq : ∀ (ord : List Str) (a b c : Int), OrdOk ns ord → FeedOk (n + 8) a b c → Q (.d (ordD ord)) [.brw (fd a b c), .v (webD ns rs)]) : wp fm__law_order [.brw (fd a b c), .v (webD ns rs)] Q := by
  unfold fm__law_order ms__law_order
  repeat infer_instance
  refine e_mixed (ds := ns.map .str) F (by rw [List.length_map]; omega) (.vt _) (by rw [List.length_map]; omega) fun xs a b c pm F => ?_
  rw [List.length_map] at F
  obtain ⟨ord, rfl, po⟩ := perm_map pm ns rfl
  repeat infer_instance
  exact kq ord a b c ⟨po⟩ (F.mono (by omega))
theorem o_neSame {d : D} {K : RV → Prop} (h : SeqAt.shaped d = true) (c : canon d = true) (q : K (.d (.bool false))) : op2 gNe d d K := ⟨.d (.bool false), by
  unfold gNe
  rw [if_pos (.inr ⟨h, h⟩), (eqv_iff d d c c).mpr rfl]
  rfl, q⟩
end

/-! ### V18: one step of the program, a day; moves -/
section
variable {k : Nat} {ns : List Str} {rs : List (Str × Str)} {rules : List Rl}
end
inductive Mv where
  | turn
  | swap (i : Nat)
def mvA (ord : List Str) : Mv → List Str
  | .turn => ord.drop 1 ++ ord.take 1
  | .swap i => ord.take i ++ [ord.getD (i + 1) Str.empty, ord.getD i Str.empty] ++ ord.drop (i + 2)
def mvOk (rs : List (Str × Str)) (ord : List Str) : Mv → Prop
  | .turn => True
  | .swap i => i + 1 < ord.length ∧ (ord.getD i Str.empty, ord.getD (i + 1) Str.empty) ∉ rs ∧ (ord.getD (i + 1) Str.empty, ord.getD i Str.empty) ∉ rs
theorem swap_split {ord : List Str} {i : Nat} (h : i + 1 < ord.length) : ord = ord.take i ++ [ord.getD i Str.empty, ord.getD (i + 1) Str.empty] ++ ord.drop (i + 2) := by
  have e1 : ord.drop i = ord.getD i Str.empty :: ord.getD (i + 1) Str.empty :: ord.drop (i + 2) := by
    rw [List.drop_eq_getElem_cons (by omega), List.drop_eq_getElem_cons (by omega), List.getD_eq_getElem?_getD, List.getD_eq_getElem?_getD, List.getElem?_eq_getElem (by omega), List.getElem?_eq_getElem h]
    rfl
  calc ord = ord.take i ++ ord.drop i := (List.take_append_drop i ord).symm
    _ = _ := by rw [e1, List.append_assoc]; rfl
theorem mvA_perm {rs : List (Str × Str)} {ord : List Str} {m : Mv} (h : mvOk rs ord m) : (mvA ord m).Perm ord := by
  cases m with
  | turn =>
    have : (ord.drop 1 ++ ord.take 1).Perm (ord.take 1 ++ ord.drop 1) := List.perm_append_comm
    rw [List.take_append_drop] at this
    exact this
  | swap i =>
    have e := swap_split h.1
    show (ord.take i ++ [ord.getD (i + 1) Str.empty, ord.getD i Str.empty] ++ ord.drop (i + 2)).Perm ord
    have p : (ord.take i ++ [ord.getD (i + 1) Str.empty, ord.getD i Str.empty] ++ ord.drop (i + 2)).Perm (ord.take i ++ [ord.getD i Str.empty, ord.getD (i + 1) Str.empty] ++ ord.drop (i + 2)) :=
      ((List.Perm.swap _ _ _).append_left _).append_right _
    rw [← e] at p
    exact p
theorem OrdOk.mv {ns : List Str} {rs : List (Str × Str)} {ord : List Str} {m : Mv} (O : OrdOk ns ord) (h : mvOk rs ord m) : OrdOk ns (mvA ord m) := ⟨(mvA_perm h).trans O.pm⟩
theorem take_snoc' {α : Type} {xs : List α} {j : Nat} {x : α} (h : xs[j]? = some x) : xs.take (j + 1) = xs.take j ++ [x] := by
  rw [List.take_succ, h]
  rfl
theorem swapD {ord : List Str} {i : Nat} : (ord.map PyData.str).take i ++ [.str (ord.getD (i + 1) Str.empty), .str (ord.getD i Str.empty)] ++ (ord.map PyData.str).drop (i + 2) = (mvA ord (.swap i)).map .str := by
  show _ = (ord.take i ++ [ord.getD (i + 1) Str.empty, ord.getD i Str.empty] ++ ord.drop (i + 2)).map _
  rw [List.map_append, List.map_append, List.map_drop, List.map_take]
  rfl
theorem ord_at {ord : List Str} {i : Nat} (h : i < ord.length) : (ord.map PyData.str)[i]? = some (.str (ord.getD i Str.empty)) := by
  rw [List.getElem?_map, getD_of h]
  rfl
/-! ### V19: states carried along moves -/
section
variable {k : Nat} {ns : List Str} {rs : List (Str × Str)} {rules : List Rl}
theorem e_exchanged {ord : List Str} {i : Nat} (hl : ord.length ≤ 100) (hi : i + 1 < ord.length) {Q : RV → Ev → Prop} (kq : Q (.d (ordD (mvA ord (.swap i)))) [.v (ordD ord), .v (nD i)]) : wp fm_exchanged [.v (ordD ord), .v (nD i)] Q := by
  unfold fm_exchanged ms_exchanged
  repeat infer_instance
  rw [show ((i : Int) + 1) = ((i + 1 : Nat) : Int) by omega]
  refine o_ixT (d := .str (ord.getD (i + 1) Str.empty)) (at_nat (ord_at hi)) ?_
  repeat infer_instance
  refine o_ixT (d := .str (ord.getD i Str.empty)) (at_nat (ord_at (by omega))) ?_
  repeat infer_instance
  rw [cut_take (by omega), show ((i : Nat) : Int).toNat = i from rfl]
  refine o_addT (by rw [List.length_take, List.length_map, sizeLine_eq]; show _ + 2 ≤ _; omega) ?_
  repeat infer_instance
  rw [cut_drop (by omega), show ((i : Int) + 2).toNat = i + 2 by omega]
  refine o_addT (by rw [List.length_append, List.length_take, List.length_drop, List.length_map, sizeLine_eq]; show _ + 2 + _ ≤ _; omega) ?_
  rw [swapD]
  repeat infer_instance
  exact kq
theorem o_negI {i : Int} {K : RV → Prop} (q : K (.d (.int (-i)))) : op1 gNeg (.int i) K := ⟨_, rfl, q⟩
theorem at_last {xs : List D} {d : D} : atI (xs ++ [d]) (-1) = some d := by
  unfold atI ixN
  rw [if_neg (by decide), if_pos (by rw [List.length_append]; show -(((_ + 1 : Nat)) : Int) ≤ -1; omega)]
  show (xs ++ [d])[_]? = _
  have : ((-1 : Int) + (((xs ++ [d]).length : Nat) : Int)).toNat = xs.length := by rw [List.length_append]; show ((-1 : Int) + ((xs.length + 1 : Nat) : Int)).toNat = _; omega
  rw [this]
  exact List.getElem?_concat_length ..
end

/-! ### V20: what of halls and moves can be shown -/
structure Rep (dep w : Nat) (d : D) : Prop where
  lay : d.canLay0 = true
  dp : d.depth ≤ dep
  is : d.intsShort 13 = true
  sh : d.showable = true
  wt : d.weight ≤ w
theorem Rep.mono {dep w dep' w' : Nat} {d : D} (h : Rep dep w d) (h1 : dep ≤ dep') (h2 : w ≤ w') : Rep dep' w' d := ⟨h.lay, Nat.le_trans h.dp h1, h.is, h.sh, Nat.le_trans h.wt h2⟩
theorem rep_all {dep w : Nat} {ds : List D} (h : ∀ d ∈ ds, Rep dep w d) : PyData.intsShortAll 13 ds = true ∧ PyData.showableAll ds = true ∧ PyData.weightAll ds ≤ ds.length * (w + 1) := by
  induction ds with
  | nil => exact ⟨rfl, rfl, Nat.zero_le _⟩
  | cons d ds ih =>
    have a := h d List.mem_cons_self
    obtain ⟨b1, b2, b3⟩ := ih fun x hx => h x (List.mem_cons_of_mem _ hx)
    have a3 := a.wt
    refine ⟨by simp [PyData.intsShortAll, a.is, b1], by simp [PyData.showableAll, a.sh, b2], ?_⟩
    simp only [PyData.weightAll, List.length_cons]
    rw [Nat.add_mul, Nat.one_mul]
    omega
theorem rep_tup {dep w : Nat} {ds : List D} (h : ∀ d ∈ ds, Rep dep w d) : Rep (dep + 1) (ds.length * (w + 1)) (.tuple ds) := by
  obtain ⟨a, b, c⟩ := rep_all h
  obtain ⟨f1, f2⟩ := flat_all (k := dep) (ds := ds) fun d hd => ⟨(h d hd).lay, (h d hd).dp⟩
  exact ⟨by simpa [PyData.canLay0] using f1, by simp only [PyData.depth]; omega, by simpa [PyData.intsShort] using a, by simpa [PyData.showable] using b, by simpa only [PyData.weight] using c⟩
theorem rep_str {z : Str} (h : z.length ≤ 17) (h2 : PyData.strOk z = true) : Rep 0 17 (.str z) := ⟨by simpa [PyData.canLay0] using h2, Nat.le_refl _, rfl, rfl, h⟩
theorem rep_shows {dep w : Nat} {d : D} (h : Rep dep w d) (h1 : dep ≤ 64) (h2 : w ≤ 2 ^ 20) : showsD d = true := shows_of h.lay (Nat.le_trans h.dp h1) h.is h.sh (Nat.le_trans h.wt h2)
section
variable {k : Nat} {ns : List Str} {rs : List (Str × Str)} {rules : List Rl}
end
/-! ### V23: tuples of states and None -/
def oD : Option Nat → D
  | none => .none
  | some n => nD n
section
variable {k : Nat} {ns : List Str} {rs : List (Str × Str)} {rules : List Rl}
end
section
variable {k : Nat} {ns : List Str} {rs : List (Str × Str)} {rules : List Rl}
end

/-! ### V25: webs of any roads; arrows -/
def flp (zs : List Str) (p : Int × Int) : Str × Str := (nmI zs p.2, nmI zs p.1)
theorem e_law_wide_web {n : Nat} {a b c most : Int} (F : FeedOk n a b c) (hn : n + 2000 < 10 ^ 9) (m0 : 1 ≤ most) (m1 : most ≤ 8) {Q : RV → Ev → Prop}
    (k : ∀ ns rs (a' b' c' : Int), WebOk (· ∈ pool12) ns rs → FeedOk (n + 100) a' b' c' → Q (.d (webD ns rs)) [.brw (fd a' b' c'), .v (.int most)]) :
    wp fm__law_wide_web [.brw (fd a b c), .v (.int most)] Q := by
  unfold fm__law_wide_web ms__law_wide_web
  repeat infer_instance
  refine e_draw F (by omega) (by omega) (by omega) fun r a b c F r0 r1 => ?_
  obtain ⟨m, hm⟩ : ∃ m : Nat, 1 + r = (m : Int) := ⟨(1 + r).toNat, by omega⟩
  repeat infer_instance
  rw [hm]
  repeat infer_instance
  refine e_names F (by omega) (by omega) (by omega) fun zs a b c zl znd zp F => ?_
  have zl : zs.length = m := zl
  have hm8 : m ≤ 8 := by omega
  have hm1 : 1 ≤ m := by omega
  have zat : ∀ i : Nat, i < m → (zs.map PyData.str)[i]? = some (.str (nmI zs (i : Int))) := fun i hi => by
    obtain ⟨e, _⟩ := at_nm (zs := zs) (i := (i : Int)) (by omega) (by omega)
    have := at_int (xs := zs.map PyData.str) (i := (i : Int)) (by omega) (by rw [List.length_map]; omega)
    obtain ⟨x, e1, e2⟩ := this
    rw [e] at e1
    cases e1
    exact e2
  repeat infer_instance
  refine w_for ?_
  repeat infer_instance
  refine v_r1 (by omega) ?_
  rw [show Int.toNat (m : Int) = m from rfl]
  refine v_loopF (fun j ρ => ∃ x5 : DV, fr x5 = true ∧ ρ = [.brw (fd a b c), .v (.int most), .v (.int m), .own (.L ((prs j).map fun p => sD (flp zs p))), .own (.L (zs.map .str)), x5, .un, .un, .un, .un]) ⟨.un, rfl, rfl⟩ ?_ ?_
  · rintro j i ρ hj ⟨x5, h5, rfl⟩
    obtain ⟨rfl, hi⟩ := rg_get hj
    have pl := prs_len i
    have pl2 : i * i ≤ 8 * 8 := Nat.mul_le_mul (by omega) (by omega)
    repeat infer_instance
    refine v_lc ?_
    repeat infer_instance
    refine v_r1 (by omega) ?_
    repeat infer_instance
    rw [show Int.toNat (i : Int) = i from rfl]
    refine v_cmapF (by (try (show wipeE (_ :: _) _ = _)); dsimp only [wipeE, List.set] <;> exact rfl) (fun (l : Nat) => sD (flp zs ((l : Int), (i : Int)))) (by rw [List.length_range]; omega) (fun l' l hl' => ?_) ?_
    · obtain ⟨rfl, hl⟩ := rg_get hl'
      repeat infer_instance
      refine ⟨rfl, ?_⟩
      repeat infer_instance
      refine o_ixL (at_nat (zat i hi)) ?_
      repeat infer_instance
      refine o_ixL (at_nat (zat l (by omega))) ?_
      repeat infer_instance
      exact ⟨rfl, rfl⟩
    repeat infer_instance
    refine v_ext rfl (by rw [List.length_map, List.length_map, List.length_range, sizeLine_eq]; omega) (by (try (show List.set (_ :: _) _ _ = _)); dsimp only [List.set] <;> exact rfl) ?_
    repeat infer_instance
    refine ⟨.v (.int i), rfl, ?_⟩
    rw [prs_succ, List.map_append, List.map_map]
    rfl
  · rintro ρ ⟨x5, h5, rfl⟩
    rw [List.length_range]
    have pl := prs_len m
    have pl2 : m * m ≤ 8 * 8 := Nat.mul_le_mul (by omega) (by omega)
    repeat infer_instance
    refine e_mixed (ds := (prs m).map fun p => sD (flp zs p)) F (by rw [List.length_map]; omega) (.br _) (by rw [List.length_map]; omega) fun xs a b c pm F => ?_
    rw [List.length_map] at F
    obtain ⟨ps, rfl, hps⟩ := perm_map pm (prs m) rfl
    have psl := hps.length_eq
    repeat infer_instance
    rw [List.length_map]
    refine e_draw F (by omega) (by omega) (by omega) fun t a b c F t0 t1 => ?_
    repeat infer_instance
    rw [cut_take t0, ← List.map_take]
    obtain ⟨qs, hqs⟩ : ∃ qs, qs = ps.take t.toNat := ⟨_, rfl⟩
    rw [← hqs]
    have ql : qs.length ≤ 14 := by
      rw [hqs, List.length_take]
      have : t < min 14 ((prs m).length : Int) + 1 := t1
      omega
    have qok : ∀ p ∈ qs, 0 ≤ p.1 ∧ p.1 < p.2 ∧ p.2 < zs.length := fun p hp => by
      rw [hqs] at hp
      have := prs_mem (hps.mem_iff.mp (List.mem_of_mem_take hp))
      omega
    have qnd : qs.Nodup := by
      rw [hqs]
      exact ((hps.nodup_iff).mpr (prs_nodup m)).sublist (List.take_sublist _ _)
    repeat infer_instance
    refine v_lc ?_
    repeat infer_instance
    refine v_cdrw (q := 1) (E := fun o => [.brw o, .v (.int most), .v (.int m), .own (.L ((prs m).map fun p => sD (flp zs p))), .own (.L (zs.map .str)), x5, .v (.list (qs.map fun p => sD (flp zs p))), .un, .un, .un]) (P := fun j y => ∃ r : Str × Str, (∀ p, qs[j]? = some p → r = (nmI zs p.1, nmI zs p.2) ∨ r = (nmI zs p.2, nmI zs p.1)) ∧ y = sD r) (by (try (show wipeE (_ :: _) _ = _)); dsimp only [wipeE, List.set] <;> exact rfl) F (by omega) (fun j p a b c hj hlt F => ?_) (fun ys a b c hyl hP F => ?_)
    · show tg1 _ (.tuple [.str (nmI zs p.2), .str (nmI zs p.1)]) _ _
      repeat infer_instance
      refine ⟨rfl, ?_⟩
      repeat infer_instance
      refine e_draw F (by omega) (by omega) (by omega) fun r a b c F r0 r1 => ?_
      repeat infer_instance
      refine if_b (fun h => ?_) (fun h => ?_)
      · repeat infer_instance
        exact ⟨⟨_, fun p' e => by rw [hj] at e; cases e; exact .inl rfl, rfl⟩, a, b, c, by (try (show wipeE (_ :: _) _ = _)); dsimp only [wipeE, List.set] <;> exact rfl, F⟩
      · repeat infer_instance
        exact ⟨⟨_, fun p' e => by rw [hj] at e; cases e; exact .inr rfl, rfl⟩, a, b, c, by (try (show wipeE (_ :: _) _ = _)); dsimp only [wipeE, List.set] <;> exact rfl, F⟩
    obtain ⟨rs, rfl, hr⟩ := ex_map hP
    rw [List.length_map] at hyl
    repeat infer_instance
    refine e_mixed (ds := zs.map .str) F (by rw [List.length_map]; omega) (.br _) (by rw [List.length_map]; omega) fun xs a b c pm2 F => ?_
    rw [List.length_map] at F
    obtain ⟨ns, rfl, hns⟩ := perm_map pm2 zs rfl
    repeat infer_instance
    have R := roads_ok (zs := zs) (ps := qs) (rs := rs) znd qnd qok hyl fun k p hk hp => by
      have e := List.getElem?_eq_getElem hk
      rcases hr k _ e p hp with h | h
      · exact .inl (by rw [e, h])
      · exact .inr (by rw [e, h])
    refine k ns rs a b c ⟨(hns.nodup_iff).mpr znd, fun z hz => zp z (hns.mem_iff.mp hz), by rw [hns.length_eq]; omega, by rw [hns.length_eq]; omega, by omega, fun r hr' => ?_, R.2⟩ (F.mono (by omega))
    obtain ⟨h1, h2, h3⟩ := R.1 r hr'
    exact ⟨hns.mem_iff.mpr h1, hns.mem_iff.mpr h2, h3⟩
theorem e_law_any_web {n : Nat} {a b c most : Int} (F : FeedOk n a b c) (hn : n + 4000 < 10 ^ 9) (m0 : 1 ≤ most) (m1 : most ≤ 8) {Q : RV → Ev → Prop}
    (k : ∀ ns rs (a' b' c' : Int), WebOk (fun z => nameS z = true) ns rs → FeedOk (n + 200) a' b' c' → Q (.d (webD ns rs)) [.brw (fd a' b' c'), .v (.int most)]) :
    wp fm__law_any_web [.brw (fd a b c), .v (.int most)] Q := by
  unfold fm__law_any_web ms__law_any_web
  repeat infer_instance
  refine e_draw F (by omega) (by decide) (by decide) fun r a b c F r0 r1 => ?_
  repeat infer_instance
  refine if_b (fun h => ?_) (fun h => ?_)
  · repeat infer_instance
    refine e_law_wide_web F (by omega) m0 m1 fun ns rs a b c W F => ?_
    repeat infer_instance
    exact k ns rs a b c (web_mono W) (F.mono (by omega))
  · repeat infer_instance
    refine e_one F (by omega) (.br _) (by simp) (by simp) fun x a b c hx F => ?_
    obtain ⟨way, rfl, hw⟩ : ∃ way : Str, x = .str way ∧ PyData.strOk way = true := by
      simp only [List.mem_cons, List.not_mem_nil, or_false] at hx
      rcases hx with rfl | rfl | rfl | rfl <;> exact ⟨_, rfl, by decide +kernel⟩
    repeat infer_instance
    refine e_web F (by omega) m0 m1 hw fun ns rs a b c W F => ?_
    repeat infer_instance
    exact k ns rs a b c (web_mono W) (F.mono (by omega))

/-! ### V26: arrows of orders -/
/-- the arrow that an order gives a road -/
def arw (ord : List Str) (r : Str × Str) : Str × Str := if ord.idxOf r.1 < ord.idxOf r.2 then r else (r.2, r.1)
abbrev arsD (L : List (Str × Str)) : D := .tuple (L.map sD)
def ars (ord : List Str) (rs : List (Str × Str)) : List (Str × Str) := rs.map (arw ord)
theorem sD_inj {a b : Str × Str} (h : sD a = sD b) : a = b := by
  obtain ⟨a1, a2⟩ := a
  obtain ⟨b1, b2⟩ := b
  have h : PyData.tuple [PyData.str a1, .str a2] = .tuple [.str b1, .str b2] := h
  injection h with h
  injection h with h1 h2
  injection h2 with h2 _
  injection h1 with h1
  injection h2 with h2
  rw [h1, h2]
theorem sDs_inj : ∀ {A B : List (Str × Str)}, A.map sD = B.map sD → A = B
  | [], [], _ => rfl
  | [], _ :: _, h => by cases h
  | _ :: _, [], h => by cases h
  | a :: A, b :: B, h => by
    have h1 : sD a = sD b := by injection h
    have h2 : A.map sD = B.map sD := by injection h
    rw [sD_inj h1, sDs_inj h2]
theorem canon_ars (L : List (Str × Str)) : canon (arsD L) = true := by
  show canonAll _ = true
  refine canonAll_of fun d hd => ?_
  obtain ⟨x, _, rfl⟩ := List.mem_map.mp hd
  rfl
/-- their names can stand -/
def NmOk (L : List (Str × Str)) : Prop := ∀ p ∈ L, nameS p.1 = true ∧ nameS p.2 = true
theorem flat_ars {L : List (Str × Str)} (h : NmOk L) : Flat 1 (L.map sD) := fun d hd => by
  obtain ⟨⟨a, b⟩, hp, rfl⟩ := List.mem_map.mp hd
  have h1 := nameS_ok (h _ hp).1
  have h2 := nameS_ok (h _ hp).2
  exact ⟨by simp [sD, PyData.canLay0, PyData.canLayAll0, h1, h2], by simp [sD, PyData.depth, PyData.depthAll]⟩
theorem shaped_ars {L : List (Str × Str)} (h : NmOk L) : SeqAt.shaped (arsD L) = true := shaped_tup (flat_ars h) (by decide)
theorem ars_eqv (A B : List (Str × Str)) : PyData.eqv (arsD A) (arsD B) = decide (A = B) := by
  have h := eqv_iff (arsD A) (arsD B) (canon_ars A) (canon_ars B)
  by_cases e : A = B
  · rw [decide_eq_true e]
    exact h.mpr (by rw [e])
  · rw [decide_eq_false e]
    refine Bool.eq_false_iff.mpr fun h2 => e (sDs_inj ?_)
    have := h.mp h2
    injection this
theorem o_neArs {A B : List (Str × Str)} (ha : NmOk A) (hb : NmOk B) {K : RV → Prop} (q : K (.d (.bool (!decide (A = B))))) : op2 gNe (arsD A) (arsD B) K := ⟨.d (.bool (!decide (A = B))), by
  unfold gNe
  rw [if_pos (.inr ⟨shaped_ars ha, shaped_ars hb⟩), ars_eqv], q⟩
theorem range_getD {ord : List Str} : (List.range ord.length).map (fun (i : Nat) => ord.getD i Str.empty) = ord := by
  refine List.ext_getElem? fun i => ?_
  rw [List.getElem?_map]
  by_cases h : i < ord.length
  · rw [List.getElem?_range h, List.getElem?_eq_getElem h, Option.map_some, List.getD_eq_getElem?_getD, List.getElem?_eq_getElem h]
    rfl
  · rw [List.getElem?_eq_none (by rw [List.length_range]; omega), List.getElem?_eq_none (by omega)]
    rfl
section
variable {ns : List Str} {rs : List (Str × Str)}
theorem ars_ok (W : WebOk (fun z => nameS z = true) ns rs) (ord : List Str) : NmOk (ars ord rs) := fun p hp => by
  obtain ⟨r, hr, rfl⟩ := List.mem_map.mp hp
  have := W.en r hr
  unfold arw
  split
  · exact ⟨W.nm _ this.1, W.nm _ this.2.1⟩
  · exact ⟨W.nm _ this.2.1, W.nm _ this.1⟩
theorem e_law_arrows {ord : List Str} (W : WebOk (fun z => nameS z = true) ns rs) (O : OrdOk ns ord) {Q : RV → Ev → Prop} (kq : Q (.d (arsD (ars ord rs))) [.v (webD ns rs), .v (ordD ord)]) : wp fm__law_arrows [.v (webD ns rs), .v (ordD ord)] Q := by
  have hrl := W.rl
  unfold fm__law_arrows ms__law_arrows
  repeat infer_instance
  refine v_lc ?_
  repeat infer_instance
  refine v_cmapF (by (try (show wipeE (_ :: _) _ = _)); dsimp only [wipeE, List.set] <;> exact rfl) (fun r => sD (arw ord r)) (by omega) (fun j r hj => ?_) ?_
  · obtain ⟨x, y⟩ := r
    have h := W.en _ (List.mem_of_getElem? hj)
    have hx : x ∈ ord := O.pm.mem_iff.mpr h.1
    have hy : y ∈ ord := O.pm.mem_iff.mpr h.2.1
    repeat infer_instance
    refine ⟨rfl, ?_⟩
    repeat infer_instance
    refine o_ixT (d := .str x) rfl ?_
    repeat infer_instance
    refine v_indexT hx ?_
    repeat infer_instance
    refine o_ixT (d := .str y) rfl ?_
    repeat infer_instance
    refine v_indexT hy ?_
    repeat infer_instance
    refine if_d (fun h => ?_) (fun h => ?_)
    · repeat infer_instance
      refine ⟨rfl, ?_⟩
      show sD (x, y) = sD (arw ord (x, y))
      unfold arw
      rw [if_pos (by have : ((ord.idxOf x : Nat) : Int) < ((ord.idxOf y : Nat) : Int) := h; show ord.idxOf x < ord.idxOf y; omega)]
    · repeat infer_instance
      refine o_ixT (d := .str y) rfl ?_
      repeat infer_instance
      refine o_ixT (d := .str x) rfl ?_
      repeat infer_instance
      refine ⟨rfl, ?_⟩
      show sD (y, x) = sD (arw ord (x, y))
      unfold arw
      rw [if_neg (by have h : ¬ ((ord.idxOf x : Nat) : Int) < ((ord.idxOf y : Nat) : Int) := h; show ¬ ord.idxOf x < ord.idxOf y; omega)]
  repeat infer_instance
  rw [show (rs.map fun r => sD (arw ord r)) = (ars ord rs).map sD by unfold ars; rw [List.map_map]; rfl]
  exact kq
theorem ord_nd {ord : List Str} (W : WebOk (fun z => nameS z = true) ns rs) (O : OrdOk ns ord) : ord.Nodup := (O.pm.nodup_iff).mpr W.nd
theorem e_arrows_of {ord : List Str} (W : WebOk (fun z => nameS z = true) ns rs) (O : OrdOk ns ord) {Q : RV → Ev → Prop} (kq : Q (.d (arsD (ars ord rs))) [.v (webD ns rs), .v (ordD ord)]) : wp fm_arrows_of [.v (webD ns rs), .v (ordD ord)] Q := by
  have hrl := W.rl
  have ol := O.pm.length_eq
  have hl8 := W.l2
  have nd := ord_nd W O
  unfold fm_arrows_of ms_arrows_of
  repeat infer_instance
  refine v_dc ?_
  refine w_enumT ?_
  repeat infer_instance
  refine ⟨_, rfl, ?_⟩
  rw [en_range (d := Str.empty)]
  repeat infer_instance
  refine v_dcS (kf := fun (i : Nat) => ord.getD i Str.empty) (vf := fun (i : Nat) => nD i) (by (try (show wipeE (_ :: _) _ = _)); dsimp only [wipeE, List.set] <;> exact rfl) (by rw [List.length_range]; omega) (by rw [range_getD]; exact nd) (fun i hi => ?_) ?_
  · repeat infer_instance
    refine ⟨rfl, ?_⟩
    repeat infer_instance
    refine ⟨rfl, ?_⟩
    repeat infer_instance
    exact ⟨rfl, rfl⟩
  have rk : ∀ z ∈ ord, dGet (sM (fun (i : Nat) => ord.getD i Str.empty) (fun (i : Nat) => nD i) (List.range ord.length)) (.str z) = some (some (nD (ord.idxOf z))) := fun z hz => by
    have hlt := List.idxOf_lt_length_of_mem hz
    have := sM_at (kf := fun (i : Nat) => ord.getD i Str.empty) (vf := fun (i : Nat) => nD i) (xs := List.range ord.length) (x := ord.idxOf z) (by rw [range_getD]; exact nd) (List.mem_range.mpr hlt)
    have e : ord.getD (ord.idxOf z) Str.empty = z := by
      rw [List.getD_eq_getElem?_getD, List.getElem?_eq_getElem hlt, List.getElem_idxOf hlt]
      rfl
    rw [e] at this
    exact this
  obtain ⟨M, hM⟩ : ∃ M, M = sM (fun (i : Nat) => ord.getD i Str.empty) (fun (i : Nat) => nD i) (List.range ord.length) := ⟨_, rfl⟩
  rw [← hM] at rk ⊢
  repeat infer_instance
  refine v_lc ?_
  repeat infer_instance
  refine v_cmapF (by (try (show wipeE (_ :: _) _ = _)); dsimp only [wipeE, List.set] <;> exact rfl) (fun r => sD (arw ord r)) (by omega) (fun j r hj => ?_) ?_
  · obtain ⟨x, y⟩ := r
    have h := W.en _ (List.mem_of_getElem? hj)
    have hx : x ∈ ord := O.pm.mem_iff.mpr h.1
    have hy : y ∈ ord := O.pm.mem_iff.mpr h.2.1
    show tg1 _ (.tuple [.str x, .str y]) _ _
    repeat infer_instance
    refine ⟨rfl, ?_⟩
    repeat infer_instance
    refine o_ixM (rk x hx) ?_
    repeat infer_instance
    refine o_ixM (rk y hy) ?_
    repeat infer_instance
    refine if_d (fun h => ?_) (fun h => ?_)
    · repeat infer_instance
      refine ⟨rfl, ?_⟩
      show sD (x, y) = sD (arw ord (x, y))
      unfold arw
      rw [if_pos (by have : ((ord.idxOf x : Nat) : Int) < ((ord.idxOf y : Nat) : Int) := h; show ord.idxOf x < ord.idxOf y; omega)]
    · repeat infer_instance
      refine ⟨rfl, ?_⟩
      show sD (y, x) = sD (arw ord (x, y))
      unfold arw
      rw [if_neg (by have h : ¬ ((ord.idxOf x : Nat) : Int) < ((ord.idxOf y : Nat) : Int) := h; show ¬ ord.idxOf x < ord.idxOf y; omega)]
  repeat infer_instance
  rw [show (rs.map fun r => sD (arw ord r)) = (ars ord rs).map sD by unfold ars; rw [List.map_map]; rfl]
  exact kq
theorem e_need_web (W : WebOk (fun z => nameS z = true) ns rs) {Q : RV → Ev → Prop} (kq : Q (.d .none) [.v (webD ns rs)]) : wp fm_need_web [.v (webD ns rs)] Q := by
  unfold fm_need_web ms_need_web
  repeat infer_instance
  refine e_web_form (k := 3) (.inl (web_good W)) (by decide) ?_
  rw [web_form W fun z h => h]
  repeat infer_instance
  exact kq
theorem e_need_orderW {ord : List Str} (W : WebOk (fun z => nameS z = true) ns rs) (O : OrdOk ns ord) {Q : RV → Ev → Prop}
    (kq : Q (.d .none) [.v (webD ns rs), .v (ordD ord)]) : wp fm_need_order [.v (webD ns rs), .v (ordD ord)] Q := by
  have H : HallOk 2 ns rs (ns.map fun _ => .keep) := ⟨W, .inl rfl, by
    have : 2 ^ ns.length ≤ 2 ^ 8 := Nat.pow_le_pow_right (by decide) W.l2
    omega, by rw [List.length_map], fun i z r _ e => by
    obtain ⟨z', _, rfl⟩ := List.mem_map.mp (List.mem_of_getElem? e)
    exact True.intro⟩
  exact e_need_order H O kq
end
/-! ### arrows of orders that are near -/
def flip2 (p : Str × Str) : Str × Str := (p.2, p.1)
theorem idx_get' {ord : List Str} {z : Str} (h : z ∈ ord) : ord[ord.idxOf z]? = some z := by rw [List.getElem?_eq_getElem (List.idxOf_lt_length_of_mem h), List.getElem_idxOf (List.idxOf_lt_length_of_mem h)]
theorem idx_ne {ord : List Str} {x y : Str} (hx : x ∈ ord) (hy : y ∈ ord) (h : x ≠ y) : ord.idxOf x ≠ ord.idxOf y := fun e => by
  have a := idx_get' hx
  rw [e, idx_get' hy] at a
  exact h (Option.some.inj a).symm
theorem swap_eq {ord : List Str} {i : Nat} : mvA ord (.swap i) = ord.take i ++ [ord.getD (i + 1) Str.empty, ord.getD i Str.empty] ++ ord.drop (i + 2) := rfl
theorem getD_idx {ord : List Str} {i : Nat} (h : i < ord.length) : ord[i]? = some (ord.getD i Str.empty) := getD_of h
theorem idx_getD {ord : List Str} (nd : ord.Nodup) {i : Nat} (h : i < ord.length) : ord.idxOf (ord.getD i Str.empty) = i := idx_at nd (getD_idx h)
theorem idx_swap {ord : List Str} (nd : ord.Nodup) {i : Nat} (hi : i + 1 < ord.length) {z : Str} (h : z ∈ ord) : (mvA ord (.swap i)).idxOf z = if ord.idxOf z = i then i + 1 else if ord.idxOf z = i + 1 then i else ord.idxOf z := by
  have hl := List.idxOf_lt_length_of_mem h
  have e := idx_get' h
  have nd2 : (mvA ord (.swap i)).Nodup := ((mvA_perm (rs := []) (m := .swap i) ⟨hi, by simp, by simp⟩).nodup_iff).mpr nd
  refine idx_at nd2 ?_
  have tl : (ord.take i).length = i := by rw [List.length_take]; omega
  rw [swap_eq, List.append_assoc, List.getElem?_append, tl]
  by_cases h0 : ord.idxOf z = i
  · rw [if_pos h0, if_neg (by omega), show i + 1 - i = 1 by omega]
    show some (ord.getD i Str.empty) = some z
    rw [← getD_idx (by omega), ← h0]
    exact e
  · rw [if_neg h0]
    by_cases h1 : ord.idxOf z = i + 1
    · rw [if_pos h1, if_neg (by omega), Nat.sub_self]
      show some (ord.getD (i + 1) Str.empty) = some z
      rw [← getD_idx (by omega), ← h1]
      exact e
    · rw [if_neg h1]
      by_cases h2 : ord.idxOf z < i
      · rw [if_pos h2, List.getElem?_take, if_pos h2]
        exact e
      · rw [if_neg h2]
        obtain ⟨m, hm⟩ : ∃ m, ord.idxOf z = i + 2 + m := ⟨ord.idxOf z - i - 2, by omega⟩
        rw [show ord.idxOf z - i = m + 1 + 1 by omega]
        show (ord.drop (i + 2))[m]? = some z
        rw [List.getElem?_drop, ← hm]
        exact e
section
variable {ns : List Str} {rs : List (Str × Str)} {ord : List Str}
theorem ars_by {ord' : List Str} {f : Str × Str → Str × Str} (h : ∀ r ∈ rs, arw ord' r = f (arw ord r)) : ars ord' rs = (ars ord rs).map f := by
  unfold ars
  rw [List.map_map]
  exact List.map_congr_left h
theorem ars_swap (W : WebOk (fun z => nameS z = true) ns rs) (O : OrdOk ns ord) {i : Nat} (hi : i + 1 < ord.length) : ars (mvA ord (.swap i)) rs = (ars ord rs).map fun p => if p = (ord.getD i Str.empty, ord.getD (i + 1) Str.empty) then flip2 p else p := ars_by fun r hr => by
  obtain ⟨h1, h2, h3⟩ := W.en r hr
  have nd := ord_nd W O
  have o1 := O.pm.mem_iff.mpr h1
  have o2 := O.pm.mem_iff.mpr h2
  have ne := idx_ne o1 o2 h3
  have key : ∀ z ∈ ord, ∀ j, j < ord.length → ((z = ord.getD j Str.empty) = (ord.idxOf z = j)) := fun z hz j hj => by
    refine propext ⟨fun e => ?_, fun e => ?_⟩
    · rw [e]; exact idx_getD nd hj
    · have := idx_get' hz
      rw [e, getD_idx hj] at this
      exact (Option.some.inj this).symm
  have pr : ∀ x y : Str, x ∈ ord → y ∈ ord → (((x, y) = (ord.getD i Str.empty, ord.getD (i + 1) Str.empty)) = (ord.idxOf x = i ∧ ord.idxOf y = i + 1)) := fun x y hx hy => by
    rw [Prod.mk.injEq, key x hx i (by omega), key y hy (i + 1) hi]
  obtain ⟨x, y⟩ := r
  unfold arw
  rw [idx_swap nd hi o1, idx_swap nd hi o2]
  dsimp only at *
  by_cases h : ord.idxOf x < ord.idxOf y
  · rw [if_pos h]
    simp only [pr x y o1 o2]
    by_cases e : ord.idxOf x = i ∧ ord.idxOf y = i + 1
    · rw [if_pos e, if_pos e.1, if_neg (show ¬ ord.idxOf y = i by omega), if_pos e.2, if_neg (by omega)]
      rfl
    · rw [if_neg e, if_pos]
      split <;> split <;> (try split) <;> (try split) <;> omega
  · rw [if_neg h]
    simp only [pr y x o2 o1]
    by_cases e : ord.idxOf y = i ∧ ord.idxOf x = i + 1
    · rw [if_pos e, if_neg (show ¬ ord.idxOf x = i by omega), if_pos e.2, if_pos e.1, if_pos (by omega)]
      rfl
    · rw [if_neg e, if_neg]
      split <;> split <;> (try split) <;> (try split) <;> omega
end

/-! ### V27: exchanges that lead from an order to another one -/
def apB (rs : List (Str × Str)) (a b : Str) : Bool := !decide ((a, b) ∈ rs) && !decide ((b, a) ∈ rs)
/-- may the neighbours at an index be exchanged -/
def exB (rs : List (Str × Str)) (ord : List Str) (i : Nat) : Bool := decide (i + 1 < ord.length) && apB rs (ord.getD i Str.empty) (ord.getD (i + 1) Str.empty)
def stepO (rs : List (Str × Str)) (ord : List Str) : D → Option (List Str)
  | .int n => if 0 ≤ n ∧ exB rs ord n.toNat = true then some (mvA ord (.swap n.toNat)) else none
  | _ => none
def leadsL (rs : List (Str × Str)) : List Str → List D → List Str → Bool
  | ord, [], oth => decide (ord = oth)
  | ord, d :: ds, oth => match stepO rs ord d with | some o => leadsL rs o ds oth | none => false
/-- the indexes at which neighbours may be exchanged -/
def swN (rs : List (Str × Str)) (ord : List Str) : List Nat := (List.range (ord.length - 1)).filter fun i => apB rs (ord.getD i Str.empty) (ord.getD (i + 1) Str.empty)
theorem mem_swN {rs : List (Str × Str)} {ord : List Str} {i : Nat} : i ∈ swN rs ord ↔ exB rs ord i = true := by
  unfold swN exB
  rw [List.mem_filter, List.mem_range, Bool.and_eq_true, decide_eq_true_iff]
  constructor <;> rintro ⟨h1, h2⟩ <;> exact ⟨by omega, h2⟩
theorem ex_mv {rs : List (Str × Str)} {ord : List Str} {i : Nat} (h : exB rs ord i = true) : mvOk rs ord (.swap i) := by
  unfold exB apB at h
  simp only [Bool.and_eq_true, decide_eq_true_iff, Bool.not_eq_true', decide_eq_false_iff_not] at h
  exact ⟨h.1, h.2.1, h.2.2⟩
theorem flat_iD0 (xs : List Nat) : Flat 0 (xs.map nD) := fun d hd => by
  obtain ⟨x, _, rfl⟩ := List.mem_map.mp hd
  exact ⟨rfl, by simp [nD, PyData.depth]⟩
section
variable {ns : List Str} {rs : List (Str × Str)}
theorem e_law_apart {a b : Str} (W : WebOk (fun z => nameS z = true) ns rs) (ha : nameS a = true) (hb : nameS b = true) {Q : RV → Ev → Prop} (kq : Q (.d (.bool (apB rs a b))) [.v (webD ns rs), .v (.str a), .v (.str b)]) : wp fm__law_apart [.v (webD ns rs), .v (.str a), .v (.str b)] Q := by
  unfold fm__law_apart ms__law_apart
  repeat infer_instance
  refine o_notinT (shaped_pair ha hb) (roads_shaped W) ?_
  rw [show (PyData.tuple [.str a, .str b]) = sD (a, b) from rfl, any_sD]
  by_cases h1 : (a, b) ∈ rs
  · have e : apB rs a b = false := by unfold apB; rw [decide_eq_true h1]; rfl
    rw [decide_eq_true h1]
    repeat infer_instance
    rw [e] at kq
    exact kq
  · have e : apB rs a b = !decide ((b, a) ∈ rs) := by unfold apB; rw [decide_eq_false h1]; rfl
    rw [decide_eq_false h1]
    repeat infer_instance
    refine o_notinT (shaped_pair hb ha) (roads_shaped W) ?_
    rw [show (PyData.tuple [.str b, .str a]) = sD (b, a) from rfl, any_sD]
    repeat infer_instance
    rw [e] at kq
    exact kq
theorem ord_nm {ord : List Str} (W : WebOk (fun z => nameS z = true) ns rs) (O : OrdOk ns ord) {i : Nat} (h : i < ord.length) : nameS (ord.getD i Str.empty) = true := W.nm _ (O.pm.mem_iff.mp (List.mem_of_getElem? (getD_of h)))
theorem e_law_swaps {ord : List Str} (W : WebOk (fun z => nameS z = true) ns rs) (O : OrdOk ns ord) {Q : RV → Ev → Prop} (kq : Q (.nl (.L ((swN rs ord).map nD))) [.v (webD ns rs), .v (ordD ord)]) : wp fm__law_swaps [.v (webD ns rs), .v (ordD ord)] Q := by
  have hl8 := W.l2
  have ol := O.pm.length_eq
  unfold fm__law_swaps ms__law_swaps
  repeat infer_instance
  refine v_lc ?_
  repeat infer_instance
  rw [List.length_map]
  refine v_r1 (by omega) ?_
  rw [show ((ord.length : Int) - 1).toNat = ord.length - 1 by omega]
  repeat infer_instance
  refine v_cfiltF (by (try (show wipeE (_ :: _) _ = _)); dsimp only [wipeE, List.set] <;> exact rfl) (fun i => apB rs (ord.getD i Str.empty) (ord.getD (i + 1) Str.empty)) (fun (i : Nat) => nD i) (by rw [List.length_range]; omega) (fun j i hj => ?_) ?_
  · obtain ⟨rfl, hi⟩ := rg_get hj
    repeat infer_instance
    refine o_ixT (d := .str (ord.getD i Str.empty)) (at_nat (ord_at (by omega))) ?_
    repeat infer_instance
    rw [show ((i : Int) + 1) = ((i + 1 : Nat) : Int) by omega]
    refine o_ixT (d := .str (ord.getD (i + 1) Str.empty)) (at_nat (ord_at (by omega))) ?_
    repeat infer_instance
    refine e_law_apart W (ord_nm W O (by omega)) (ord_nm W O (by omega)) ?_
    repeat infer_instance
    refine ⟨rfl, fun _ => ?_, fun _ => ?_⟩
    · repeat infer_instance
      exact ⟨rfl, rfl⟩
    · rfl
  repeat infer_instance
  exact kq
theorem e_law_swapped {ord : List Str} {i : Nat} (hl : ord.length ≤ 100) (hi : i + 1 < ord.length) {Q : RV → Ev → Prop} (kq : Q (.d (ordD (mvA ord (.swap i)))) [.v (ordD ord), .v (nD i)]) : wp fm__law_swapped [.v (ordD ord), .v (nD i)] Q := by
  unfold fm__law_swapped ms__law_swapped
  repeat infer_instance
  rw [show ((i : Int) + 1) = ((i + 1 : Nat) : Int) by omega]
  refine o_ixT (d := .str (ord.getD (i + 1) Str.empty)) (at_nat (ord_at hi)) ?_
  repeat infer_instance
  refine o_ixT (d := .str (ord.getD i Str.empty)) (at_nat (ord_at (by omega))) ?_
  repeat infer_instance
  rw [cut_take (by omega), show ((i : Nat) : Int).toNat = i from rfl]
  refine o_addT (by rw [List.length_take, List.length_map, sizeLine_eq]; show _ + 2 ≤ _; omega) ?_
  repeat infer_instance
  rw [cut_drop (by omega), show ((i : Int) + 2).toNat = i + 2 by omega]
  refine o_addT (by rw [List.length_append, List.length_take, List.length_drop, List.length_map, sizeLine_eq]; show _ + 2 + _ ≤ _; omega) ?_
  rw [swapD]
  repeat infer_instance
  exact kq
theorem ex_lt {ord : List Str} {i : Nat} (h : exB rs ord i = true) : i + 1 < ord.length := (ex_mv h).1
end

/-! ### V28: a path of exchanges between two orders with the same arrows -/
theorem leads_snoc {rs : List (Str × Str)} {d : D} {cur o : List Str} (h2 : stepO rs cur d = some o) : ∀ {ds : List D} {ord : List Str}, leadsL rs ord ds cur = true → leadsL rs ord (ds ++ [d]) o = true
  | [], ord, h => by
    have e : ord = cur := of_decide_eq_true h
    subst e
    show (match stepO rs ord d with | some o' => leadsL rs o' [] o | none => false) = true
    rw [h2]
    exact decide_eq_true rfl
  | x :: ds, ord, h => by
    have h : (match stepO rs ord x with | some o' => leadsL rs o' ds cur | none => false) = true := h
    show (match stepO rs ord x with | some o' => leadsL rs o' (ds ++ [d]) o | none => false) = true
    cases hx : stepO rs ord x with
    | none => rw [hx] at h; cases h
    | some o' => rw [hx] at h; exact leads_snoc h2 h
theorem step_ex {rs : List (Str × Str)} {ord : List Str} {i : Nat} (h : exB rs ord i = true) : stepO rs ord (nD i) = some (mvA ord (.swap i)) := by
  show (if 0 ≤ ((i : Nat) : Int) ∧ exB rs ord ((i : Nat) : Int).toNat = true then some (mvA ord (.swap ((i : Nat) : Int).toNat)) else none) = _
  exact if_pos ⟨by omega, h⟩
theorem arw_iff {o o' : List Str} {r : Str × Str} (ne : r.1 ≠ r.2) (h : arw o r = arw o' r) : (o.idxOf r.1 < o.idxOf r.2) ↔ (o'.idxOf r.1 < o'.idxOf r.2) := by
  unfold arw at h
  by_cases h1 : o.idxOf r.1 < o.idxOf r.2
  · by_cases h2 : o'.idxOf r.1 < o'.idxOf r.2
    · exact ⟨fun _ => h2, fun _ => h1⟩
    · rw [if_pos h1, if_neg h2] at h
      exact absurd (congrArg Prod.fst h) ne
  · by_cases h2 : o'.idxOf r.1 < o'.idxOf r.2
    · rw [if_neg h1, if_pos h2] at h
      exact absurd (congrArg Prod.fst h).symm ne
    · exact ⟨fun h => absurd h h1, fun h => absurd h h2⟩
theorem ars_at {o o' : List Str} {rs : List (Str × Str)} (h : ars o rs = ars o' rs) {r : Str × Str} (hr : r ∈ rs) : arw o r = arw o' r := by
  unfold ars at h
  exact List.map_inj_left.mp h r hr
section
variable {ns : List Str} {rs : List (Str × Str)} {ord : List Str}
theorem ars_same (W : WebOk (fun z => nameS z = true) ns rs) (O : OrdOk ns ord) {i : Nat} (hx : exB rs ord i = true) : ars (mvA ord (.swap i)) rs = ars ord rs := by
  obtain ⟨hi, n1, n2⟩ := ex_mv hx
  rw [ars_swap W O hi]
  refine (List.map_congr_left fun p hp => ?_).trans (List.map_id _)
  obtain ⟨r, hr, rfl⟩ := List.mem_map.mp hp
  refine if_neg fun e => ?_
  obtain ⟨x, y⟩ := r
  unfold arw at e
  split at e
  · rw [e] at hr
    exact n1 hr
  · have e1 := congrArg Prod.fst e
    have e2 := congrArg Prod.snd e
    dsimp only at e1 e2
    rw [e1, e2] at hr
    exact n2 hr
/-- where the two orders agree up to a place, what stands ahead of it in one of them may be passed -/
theorem may_pass (W : WebOk (fun z => nameS z = true) ns rs) {cur oth : List Str} (O : OrdOk ns cur) (O2 : OrdOk ns oth) (ha : ars cur rs = ars oth rs) {at' i : Nat} (hp : cur.take at' = oth.take at') (hat : at' < oth.length) (h0 : at' ≤ i) (hi : i + 1 < cur.length)
    (hz : cur.getD (i + 1) Str.empty = oth.getD at' Str.empty) : exB rs cur i = true := by
  have nd := ord_nd W O
  have nd2 := ord_nd W O2
  have my : cur.getD i Str.empty ∈ cur := List.mem_of_getElem? (getD_of (by omega))
  have mz : cur.getD (i + 1) Str.empty ∈ cur := List.mem_of_getElem? (getD_of hi)
  have iy := idx_getD nd (show i < cur.length by omega)
  have iz := idx_getD nd hi
  have jz : oth.idxOf (cur.getD (i + 1) Str.empty) = at' := by rw [hz]; exact idx_getD nd2 hat
  have jy : at' < oth.idxOf (cur.getD i Str.empty) := by
    have m2 : cur.getD i Str.empty ∈ oth := O2.pm.mem_iff.mpr (O.pm.mem_iff.mp my)
    have q := idx_get' m2
    refine Nat.lt_of_not_le fun le => ?_
    rcases Nat.lt_or_eq_of_le le with lt | e
    · have a1 : (oth.take at')[oth.idxOf (cur.getD i Str.empty)]? = some (cur.getD i Str.empty) := by rw [List.getElem?_take, if_pos lt]; exact q
      rw [← hp, List.getElem?_take, if_pos lt] at a1
      have := idx_at nd a1
      omega
    · have : cur.getD i Str.empty = cur.getD (i + 1) Str.empty := by
        rw [e, ← jz, idx_get' (O2.pm.mem_iff.mpr (O.pm.mem_iff.mp mz))] at q
        exact (Option.some.inj q).symm
      rw [← this, iy] at iz
      omega
  have ne : cur.getD i Str.empty ≠ cur.getD (i + 1) Str.empty := fun e => by
    rw [← e, iy] at iz
    omega
  unfold exB apB
  rw [decide_eq_true hi, Bool.true_and, Bool.and_eq_true]
  refine ⟨?_, ?_⟩
  · rw [Bool.not_eq_true', decide_eq_false_iff_not]
    intro h
    have := (arw_iff (r := (cur.getD i Str.empty, cur.getD (i + 1) Str.empty)) ne (ars_at ha h)).mp (by dsimp only; omega)
    dsimp only at this
    omega
  · rw [Bool.not_eq_true', decide_eq_false_iff_not]
    intro h
    have := (arw_iff (r := (cur.getD (i + 1) Str.empty, cur.getD i Str.empty)) (Ne.symm ne) (ars_at ha h)).mpr (by dsimp only; omega)
    dsimp only at this
    omega
end

/-! ### V29: path_between -/
theorem w_range3 {ms : MDs} {ρ : Ev} {Q : List D → Ev → Prop} (h : wp ms ρ fun ds ρ1 => ∃ is, rangeOf3 ds = some is ∧ Q is ρ1) : wp (mRange3 ms) ρ Q := by
  obtain ⟨ds, ρ1, e1, is, e2, q⟩ := h
  exact ⟨is, ρ1, by unfold mRange3; simp [e1, e2], q⟩
theorem r3_down {a k : Nat} (hk : a ≤ k) (hb : k < 1000) : rangeOf3 [.int ((k : Int) - 1), .int ((a : Int) - 1), .int (-1)] = some ((List.range (k - a)).map fun (i : Nat) => nD (k - 1 - i)) := by
  have sz : Builtin.Range.rangeSize ((k : Int) - 1) ((a : Int) - 1) (-1) = ((k - a : Nat) : Int) := by
    unfold Builtin.Range.rangeSize
    rw [if_neg (by decide)]
    by_cases h : a < k
    · rw [if_pos (by omega)]
      simp only [Int.neg_neg, Int.ediv_one]
      omega
    · rw [if_neg (by omega)]
      omega
  unfold rangeOf3
  dsimp only
  rw [if_pos ⟨by decide, by decide, PySem.W.small_down (by omega) (by omega) (by omega) (by omega), by rw [sz]; omega⟩, sz]
  unfold rangeC
  rw [Int.toNat_natCast]
  congr 1
  refine List.map_congr_left fun i hi => ?_
  have := List.mem_range.mp hi
  show PyData.int _ = .int ((k - 1 - i : Nat) : Int)
  congr 1
  omega
theorem take_swap {cur : List Str} {i j : Nat} (h : j ≤ i) (hi : i + 1 < cur.length) : (mvA cur (.swap i)).take j = cur.take j := by
  rw [swap_eq, List.append_assoc, List.take_append_of_le_length (by rw [List.length_take]; omega), List.take_take, Nat.min_eq_left h]
theorem getD_swap {cur : List Str} {i : Nat} (hi : i + 1 < cur.length) : (mvA cur (.swap i)).getD i Str.empty = cur.getD (i + 1) Str.empty := by
  have tl : (cur.take i).length = i := by rw [List.length_take]; omega
  rw [swap_eq, List.append_assoc, List.getD_eq_getElem?_getD, List.getElem?_append, tl, if_neg (by omega), Nat.sub_self]
  rfl
theorem take_more {cur oth : List Str} {j : Nat} (hc : j < cur.length) (ho : j < oth.length) (h : cur.take j = oth.take j) (e : cur.getD j Str.empty = oth.getD j Str.empty) : cur.take (j + 1) = oth.take (j + 1) := by
  rw [List.take_add_one, List.take_add_one, h, getD_of hc, getD_of ho, e]
section
variable {ns : List Str} {rs : List (Str × Str)} {ord oth : List Str}
theorem e_path_between (W : WebOk (fun z => nameS z = true) ns rs) (O : OrdOk ns ord) (O2 : OrdOk ns oth) {Q : RV → Ev → Prop}
    (k1 : ars ord rs ≠ ars oth rs → Q (.d .none) [.v (webD ns rs), .v (ordD ord), .v (ordD oth)])
    (k2 : ars ord rs = ars oth rs → ∀ is : List Nat, leadsL rs ord (is.map nD) oth = true → is.length ≤ ns.length * 8 → (∀ i ∈ is, i < 8) → Q (.nl (.L (is.map nD))) [.v (webD ns rs), .v (ordD ord), .v (ordD oth)]) :
    wp fm_path_between_b [.v (webD ns rs), .v (ordD ord), .v (ordD oth)] Q := by
  have hl8 := W.l2
  have ol := O.pm.length_eq
  have ol2 := O2.pm.length_eq
  unfold fm_path_between_b ms_path_between_b
  repeat infer_instance
  refine e_arrows_of W O ?_
  repeat infer_instance
  refine e_arrows_of W O2 ?_
  repeat infer_instance
  refine o_neArs (ars_ok W ord) (ars_ok W oth) ?_
  by_cases ha : ars ord rs = ars oth rs
  · rw [decide_eq_true ha]
    repeat infer_instance
    refine w_for ?_
    refine w_enumT ?_
    repeat infer_instance
    refine ⟨_, rfl, ?_⟩
    rw [en_range (d := Str.empty)]
    repeat infer_instance
    refine v_loopF (fun j ρ => ∃ (cur : List Str) (is : List Nat) (x4 x5 x6 : DV), OrdOk ns cur ∧ ars cur rs = ars oth rs ∧ cur.take j = oth.take j ∧ leadsL rs ord (is.map nD) cur = true ∧ is.length ≤ j * 8 ∧ (∀ i ∈ is, i < 8) ∧ fr x4 = true ∧ fr x5 = true ∧ fr x6 = true ∧
      ρ = [.v (webD ns rs), .v (ordD cur), .v (ordD oth), .own (.L (is.map nD)), x4, x5, x6]) ⟨ord, [], .un, .un, .un, O, ha, by rw [List.take_zero, List.take_zero], decide_eq_true rfl, by simp, by simp, rfl, rfl, rfl, rfl⟩ ?_ ?_
    · rintro j0 j ρ hj ⟨cur, is, x4, x5, x6, OC, ac, tk, ld, il, i8, h4, h5, h6, rfl⟩
      obtain ⟨rfl, hjl⟩ := rg_get hj
      have cl := OC.pm.length_eq
      have nd := ord_nd W OC
      have nd2 := ord_nd W O2
      have zo : oth.getD j Str.empty ∈ oth := List.mem_of_getElem? (getD_of hjl)
      have zc : oth.getD j Str.empty ∈ cur := OC.pm.mem_iff.mpr (O2.pm.mem_iff.mp zo)
      have kl := List.idxOf_lt_length_of_mem zc
      have jk : j ≤ cur.idxOf (oth.getD j Str.empty) := Nat.le_of_not_lt fun lt => by
        have a1 : (cur.take j)[cur.idxOf (oth.getD j Str.empty)]? = some (oth.getD j Str.empty) := by rw [List.getElem?_take, if_pos lt]; exact idx_get' zc
        rw [tk, List.getElem?_take, if_pos lt] at a1
        have := idx_at nd2 a1
        rw [idx_getD nd2 hjl] at this
        omega
      have zk : cur.getD (cur.idxOf (oth.getD j Str.empty)) Str.empty = oth.getD j Str.empty := Option.some.inj ((getD_of kl).symm.trans (idx_get' zc))
      obtain ⟨k, hk⟩ : ∃ k, k = cur.idxOf (oth.getD j Str.empty) := ⟨_, rfl⟩
      rw [← hk] at kl jk zk
      repeat infer_instance
      refine w_for ?_
      refine w_range3 ?_
      repeat infer_instance
      refine v_indexT zc ?_
      rw [← hk]
      repeat infer_instance
      refine o_negI ?_
      repeat infer_instance
      refine ⟨_, r3_down jk (by omega), ?_⟩
      repeat infer_instance
      refine v_loopF (fun i ρ => ∃ (cur2 : List Str) (is2 : List Nat) (x6 : DV), OrdOk ns cur2 ∧ ars cur2 rs = ars oth rs ∧ cur2.take j = oth.take j ∧ cur2.getD (k - i) Str.empty = oth.getD j Str.empty ∧ leadsL rs ord (is2.map nD) cur2 = true ∧ is2.length ≤ j * 8 + i ∧ (∀ i ∈ is2, i < 8) ∧ fr x6 = true ∧
        ρ = [.v (webD ns rs), .v (ordD cur2), .v (ordD oth), .own (.L (is2.map nD)), .v (nD j), .v (.str (oth.getD j Str.empty)), x6]) ⟨cur, is, x6, OC, ac, tk, zk, ld, il, i8, h6, rfl⟩ ?_ ?_
      · rintro i0 i ρ hi ⟨cur2, is2, x6, OC2, ac2, tk2, z2, ld2, il2, i82, h6, rfl⟩
        obtain ⟨rfl, hil⟩ := rg_get hi
        have cl2 := OC2.pm.length_eq
        have hx : exB rs cur2 (k - 1 - i) = true := may_pass W OC2 O2 ac2 tk2 hjl (by omega) (by omega) (by rw [show k - 1 - i + 1 = k - i by omega]; exact z2)
        have hlt := ex_lt hx
        have hl : cur2.length ≤ 100 := by omega
        repeat infer_instance
        try refine v_app rfl (by rw [List.length_map, sizeLine_eq]; omega) rfl ?_
        repeat infer_instance
        refine e_exchanged hl hlt ?_
        repeat infer_instance
        refine ⟨_, is2 ++ [k - 1 - i], _, OC2.mv (ex_mv hx), (ars_same W OC2 hx).trans ac2, (take_swap (by omega) hlt).trans tk2, ?_, ?_, by rw [List.length_append]; show is2.length + 1 ≤ _; omega, fun q hq => ?_, rfl, by rw [List.map_append]; rfl⟩
        · rw [show k - (i + 1) = k - 1 - i by omega, getD_swap hlt, show k - 1 - i + 1 = k - i by omega]
          exact z2
        · rw [List.map_append]
          exact leads_snoc (step_ex hx) ld2
        · rcases List.mem_append.mp hq with h | h
          · exact i82 q h
          · rw [List.mem_singleton.mp h]
            omega
      · rintro ρ ⟨cur2, is2, x6, OC2, ac2, tk2, z2, ld2, il2, i82, h6, rfl⟩
        have cl2 := OC2.pm.length_eq
        rw [List.length_range] at z2 il2
        rw [show k - (k - j) = j by omega] at z2
        repeat infer_instance
        exact ⟨cur2, is2, _, _, _, OC2, ac2, take_more (by omega) hjl tk2 z2, ld2, by omega, i82, rfl, rfl, h6, rfl⟩
    · rintro ρ ⟨cur, is, x4, x5, x6, OC, ac, tk, ld, il, i8, h4, h5, h6, rfl⟩
      have cl := OC.pm.length_eq
      rw [List.length_range] at tk il
      rw [List.take_length, show oth.length = cur.length by omega, List.take_length] at tk
      subst tk
      repeat infer_instance
      exact k2 ha is ld (by omega) i8
  · rw [decide_eq_false ha]
    repeat infer_instance
    exact k1 ha
end

/-! ### V30: exchanges, exchanges_hold -/
section
variable {ns : List Str} {rs : List (Str × Str)} {ord oth : List Str}
theorem e_need_two_orders (W : WebOk (fun z => nameS z = true) ns rs) (O : OrdOk ns ord) (O2 : OrdOk ns oth) {Q : RV → Ev → Prop}
    (kq : Q (.d .none) [.v (webD ns rs), .v (ordD ord), .v (ordD oth)]) : wp fm_need_two_orders [.v (webD ns rs), .v (ordD ord), .v (ordD oth)] Q := by
  unfold fm_need_two_orders ms_need_two_orders
  repeat infer_instance
  refine e_need_web W ?_
  repeat infer_instance
  refine e_need_orderW W O ?_
  repeat infer_instance
  refine e_need_orderW W O2 ?_
  repeat infer_instance
  exact kq
/-- what exchanges answers -/
theorem exchanges_is (W : WebOk (fun z => nameS z = true) ns rs) (O : OrdOk ns ord) (O2 : OrdOk ns oth) :
    (ars ord rs ≠ ars oth rs ∧ ∀ {Q : RV → Ev → Prop}, Q (.d .none) [.v (webD ns rs), .v (ordD ord), .v (ordD oth)] → wp fm_exchanges_b [.v (webD ns rs), .v (ordD ord), .v (ordD oth)] Q) ∨
    (ars ord rs = ars oth rs ∧ ∃ is : List Nat, leadsL rs ord (is.map nD) oth = true ∧ is.length ≤ ns.length * 8 ∧ (∀ i ∈ is, i < 8) ∧
      ∀ {Q : RV → Ev → Prop}, Q (.nl (.L (is.map nD))) [.v (webD ns rs), .v (ordD ord), .v (ordD oth)] → wp fm_exchanges_b [.v (webD ns rs), .v (ordD ord), .v (ordD oth)] Q) := by
  have h : wp fm_exchanges_b [.v (webD ns rs), .v (ordD ord), .v (ordD oth)] fun r ρ => ρ = [.v (webD ns rs), .v (ordD ord), .v (ordD oth)] ∧
      ((ars ord rs ≠ ars oth rs ∧ r = .d .none) ∨ (ars ord rs = ars oth rs ∧ ∃ is : List Nat, leadsL rs ord (is.map nD) oth = true ∧ is.length ≤ ns.length * 8 ∧ (∀ i ∈ is, i < 8) ∧ r = .nl (.L (is.map nD)))) := by
    unfold fm_exchanges_b ms_exchanges_b
    repeat infer_instance
    refine e_need_two_orders W O O2 ?_
    repeat infer_instance
    refine e_path_between W O O2 (fun h => ?_) (fun h is h1 h2 h3 => ?_)
    · repeat infer_instance
      exact ⟨rfl, .inl ⟨h, rfl⟩⟩
    · repeat infer_instance
      exact ⟨rfl, .inr ⟨h, is, h1, h2, h3, rfl⟩⟩
  obtain ⟨r, ρ, e, rfl, ⟨h1, rfl⟩ | ⟨h1, is, h2, h3, h4, rfl⟩⟩ := h
  · exact .inl ⟨h1, fun q => ⟨_, _, e, q⟩⟩
  · exact .inr ⟨h1, is, h2, h3, h4, fun q => ⟨_, _, e, q⟩⟩
end

/-! ### V31: alike orders drawn -/
theorem o_neNilN {xs : List Nat} {K : RV → Prop} (q : K (.d (.bool (!decide (xs = []))))) : op2 gNe (.list (xs.map nD)) (.list []) K := ⟨.d (.bool (!decide (xs = []))), by
  have ca : canon (.list (xs.map nD)) = true := by
    show canonAll _ = true
    refine canonAll_of fun d hd => ?_
    obtain ⟨x, _, rfl⟩ := List.mem_map.mp hd
    rfl
  have h := eqv_iff (.list (xs.map nD)) (.list []) ca rfl
  unfold gNe
  rw [if_pos (.inr ⟨shaped_list (flat_iD0 xs) (by decide), shaped_list (flat_iD0 []) (by decide)⟩)]
  have : PyData.eqv (.list (xs.map nD)) (.list []) = decide (xs = []) := by
    by_cases e : xs = []
    · subst e
      exact h.mpr rfl
    · rw [decide_eq_false e]
      refine Bool.eq_false_iff.mpr fun h2 => e ?_
      have h3 := h.mp h2
      injection h3 with h3
      exact List.map_eq_nil_iff.mp h3
  rw [this], q⟩
section
variable {ns : List Str} {rs : List (Str × Str)} {ord : List Str}
theorem e_law_like {n : Nat} {a b c : Int} {most : Nat} (F : FeedOk n a b c) (hn : n + 1000 < 10 ^ 9) (hm : most ≤ 12) (W : WebOk (fun z => nameS z = true) ns rs) (O : OrdOk ns ord) {Q : RV → Ev → Prop}
    (kq : ∀ (is : List Nat) (cur : List Str) (a b c : Int) x2, leadsL rs ord (is.map nD) cur = true → OrdOk ns cur → ars cur rs = ars ord rs → is.length ≤ 12 → (∀ i ∈ is, i < 8) → FeedOk (n + 30) a b c →
      Q (.d (.tuple [.list (is.map nD), ordD cur])) [.brw (fd a b c), .v (webD ns rs), x2, .v (nD most)]) :
    wp fm__law_like [.brw (fd a b c), .v (webD ns rs), .v (ordD ord), .v (nD most)] Q := by
  have hl8 := W.l2
  unfold fm__law_like ms__law_like
  repeat infer_instance
  refine w_for ?_
  repeat infer_instance
  refine e_draw F (by omega) (by omega) (by omega) fun t a b c F t0 t1 => ?_
  repeat infer_instance
  refine v_r1 (by omega) ?_
  obtain ⟨T, hT⟩ : ∃ T, T = t.toNat := ⟨_, rfl⟩
  have hT2 : T ≤ 12 := by omega
  rw [← hT]
  refine v_loopF (fun j ρ => ∃ (a b c : Int) (is : List Nat) (cur : List Str) (x5 x6 : DV), fr x5 = true ∧ noBrw (some x6) = true ∧ FeedOk (n + 1 + j) a b c ∧ leadsL rs ord (is.map nD) cur = true ∧ OrdOk ns cur ∧ ars cur rs = ars ord rs ∧ is.length ≤ j ∧ (∀ i ∈ is, i < 8) ∧
    ρ = [.brw (fd a b c), .v (webD ns rs), .v (ordD cur), .v (nD most), .own (.L (is.map nD)), x5, x6]) ⟨a, b, c, [], ord, .un, .un, rfl, rfl, F, decide_eq_true rfl, O, rfl, by simp, by simp, rfl⟩ ?_ ?_
  · rintro j0 j ρ hj ⟨a, b, c, is, cur, x5, x6, h5, h6, F, ld, OC, ac, il, i8, rfl⟩
    obtain ⟨rfl, hj2⟩ := rg_get hj
    have cl := OC.pm.length_eq
    repeat infer_instance
    refine e_law_swaps W OC ?_
    repeat infer_instance
    refine o_neNilN ?_
    by_cases hs : swN rs cur = []
    · rw [decide_eq_true hs]
      repeat infer_instance
      exact ⟨a, b, c, is, cur, _, _, rfl, rfl, F.mono (by omega), ld, OC, ac, by omega, i8, rfl⟩
    · rw [decide_eq_false hs]
      have swl : (swN rs cur).length ≤ 8 := by
        unfold swN
        refine Nat.le_trans (List.length_filter_le ..) ?_
        rw [List.length_range]
        omega
      have sw0 : 0 < (swN rs cur).length := List.length_pos_iff.mpr hs
      repeat infer_instance
      refine e_one F (by omega) (.br _) (by rw [List.length_map]; omega) (by rw [List.length_map]; omega) fun x a b c hx F => ?_
      obtain ⟨i, hi, rfl⟩ := List.mem_map.mp hx
      have hx := mem_swN.mp hi
      have hlt := ex_lt hx
      have hl : cur.length ≤ 100 := by omega
      repeat infer_instance
      try refine v_app rfl (by rw [List.length_map, sizeLine_eq]; omega) rfl ?_
      repeat infer_instance
      refine o_negI ?_
      repeat infer_instance
      refine o_ixL (d := nD i) at_last ?_
      repeat infer_instance
      refine e_law_swapped hl hlt ?_
      repeat infer_instance
      refine ⟨_, _, _, is ++ [i], _, _, _, rfl, rfl, F.mono (by omega), ?_, OC.mv (ex_mv hx), (ars_same W OC hx).trans ac, by rw [List.length_append]; show is.length + 1 ≤ _; omega, fun q hq => ?_, by rw [List.map_append]; rfl⟩
      · rw [List.map_append]
        exact leads_snoc (step_ex hx) ld
      · rcases List.mem_append.mp hq with h | h
        · exact i8 q h
        · rw [List.mem_singleton.mp h]
          omega
  · rintro ρ ⟨a, b, c, is, cur, x5, x6, h5, h6, F, ld, OC, ac, il, i8, rfl⟩
    rw [List.length_range] at F il
    repeat infer_instance
    exact kq is cur a b c _ ld OC ac (by omega) i8 (F.mono (by omega))
end

/-! ### V32: another order drawn -/
section
variable {ns : List Str} {rs : List (Str × Str)} {ord : List Str}
end

/-! ### V33: things near a list of indexes -/
/-- what can be shown, integers of up to thirty signs among it -/
structure RepB (dep w : Nat) (d : D) : Prop where
  lay : d.canLay0 = true
  dp : d.depth ≤ dep
  is : d.intsShort 30 = true
  sh : d.showable = true
  wt : d.weight ≤ w
theorem RepB.mono {dep w dep' w' : Nat} {d : D} (h : RepB dep w d) (h1 : dep ≤ dep') (h2 : w ≤ w') : RepB dep' w' d := ⟨h.lay, Nat.le_trans h.dp h1, h.is, h.sh, Nat.le_trans h.wt h2⟩
section
variable {ns : List Str} {rs : List (Str × Str)} {z : Str}
end
/-- the table of a place -/
def tbl (k : Nat) (ns : List Str) (rs : List (Str × Str)) (rules : List Rl) (i : Nat) : List Nat := match ns[i]?, rules[i]? with
  | some z, some r => (List.range (k ^ ((near ns rs z).length + 1))).map fun n => nxd k ns (near ns rs z) r (dig k n ((near ns rs z).length + 1))
  | _, _ => []
section
variable {k : Nat} {ns : List Str} {rs : List (Str × Str)} {rules : List Rl} {i : Nat} {z : Str} {r : Rl}
end
/-! ### V35: tables of all places are right -/
section
variable {k : Nat} {ns : List Str} {rs : List (Str × Str)} {rules : List Rl} {i : Nat} {z : Str} {r : Rl}
end
theorem o_notB {a b : Bool} {K : RV → Prop} (q : K (.d (.bool (!decide (a = b))))) : op2 gNotB (.bool a) (.bool b) K := ⟨_, rfl, q⟩
theorem HallS.hall {k : Nat} {ns : List Str} {rs : List (Str × Str)} {sort : Str} {rules : List Rl} (H : HallS k ns rs sort rules) : HallOk k ns rs rules := H.ok
/-! ### V39: steps; halls with tables -/
section
variable {k : Nat} {ns : List Str} {rs : List (Str × Str)} {rules : List Rl} {i : Nat} {z : Str} {st : List Nat}
end

/-! ### V40: places without a road take their steps in either sequence -/
section
variable {k : Nat} {ns : List Str} {rs : List (Str × Str)} {rules : List Rl} {st : List Nat}
end

/-! ### V41: dicts whose keys are tuples -/
theorem nkDs_map {α : Type} {f : α → D} {g : α → NestedKey} (h : ∀ x, nkD (f x) = some (g x)) : ∀ xs : List α, nkDs (xs.map f) = some (xs.map g)
  | [] => rfl
  | x :: xs => by
    show ((nkD (f x)).bind fun k => (nkDs (xs.map f)).map (k :: ·)) = _
    rw [h x, nkDs_map h xs]
    rfl
abbrev gM {α : Type} (kf vf : α → D) (xs : List α) : List (D × D) := xs.map fun x => (kf x, vf x)
section
variable {α : Type} {kf vf : α → D} {kk : α → NestedKey} {xs : List α} {z : α}
theorem gM_kOk {d : D} (td : ∀ x, isTD (kf x) = true) (hd : isTD d = true) : kOk (gM kf vf xs) d = true := by
  cases xs with
  | nil => rfl
  | cons x xs =>
    show (isTD (kf x) == isTD d) = true
    rw [td, hd]
    rfl
theorem gM_find [DecidableEq α] (hk : ∀ x, keyD (kf x) = some (kk x)) (inj : ∀ x y, kk x = kk y → x = y) : dFind (gM kf vf xs) (kk z) = (xs.find? fun x => decide (x = z)).map vf := by
  unfold dFind
  induction xs with
  | nil => rfl
  | cons x xs ih =>
    rw [show gM kf vf (x :: xs) = (kf x, vf x) :: gM kf vf xs from rfl, List.find?_cons, List.find?_cons]
    dsimp only
    rw [hk x]
    by_cases e : x = z
    · rw [decide_eq_true (by rw [e]), decide_eq_true e]
      rfl
    · rw [decide_eq_false (fun h => e (inj _ _ (Option.some.inj h))), decide_eq_false e]
      exact ih
theorem gM_get [DecidableEq α] (hk : ∀ x, keyD (kf x) = some (kk x)) (inj : ∀ x y, kk x = kk y → x = y) (td : ∀ x, isTD (kf x) = true) : dGet (gM kf vf xs) (kf z) = some ((xs.find? fun x => decide (x = z)).map vf) := by
  show ((keyD (kf z)).bind fun k => if kOk (gM kf vf xs) (kf z) = true then some (dFind (gM kf vf xs) k) else none) = _
  rw [hk z]
  show (if kOk (gM kf vf xs) (kf z) = true then some (dFind (gM kf vf xs) (kk z)) else none) = _
  rw [if_pos (gM_kOk td (td z)), gM_find hk inj]
end
/-! ### all orders -/
def ordsF (ns : List Str) : Nat → List (List Str)
  | 0 => [[]]
  | j + 1 => (ordsF ns j).flatMap fun o => (ns.filter fun z => !decide (z ∈ o)).map fun z => o ++ [z]
theorem flatLe {α β : Type} {f : α → List β} {c : Nat} : ∀ {L : List α}, (∀ x, (f x).length ≤ c) → (L.flatMap f).length ≤ L.length * c
  | [], _ => by simp
  | i :: L, h => by
    rw [List.flatMap_cons, List.length_append, List.length_cons, Nat.add_mul, Nat.one_mul]
    have := flatLe (L := L) h
    have := h i
    omega
theorem ordsF_len {ns : List Str} : ∀ j, (ordsF ns j).length ≤ ns.length ^ j
  | 0 => by rw [Nat.pow_zero]; exact Nat.le_refl _
  | j + 1 => by
    refine Nat.le_trans (flatLe (c := ns.length) fun o => ?_) ?_
    · rw [List.length_map]
      exact List.length_filter_le _ _
    · rw [Nat.pow_succ]
      exact Nat.mul_le_mul_right _ (ordsF_len j)
theorem ordsF_mem {ns : List Str} : ∀ {j : Nat} {o : List Str}, o ∈ ordsF ns j ↔ o.length = j ∧ o.Nodup ∧ ∀ z ∈ o, z ∈ ns
  | 0, o => by
    show o ∈ [[]] ↔ _
    rw [List.mem_singleton]
    constructor
    · rintro rfl
      exact ⟨rfl, List.nodup_nil, nofun⟩
    · rintro ⟨h, _, _⟩
      exact List.eq_nil_of_length_eq_zero h
  | j + 1, o => by
    show o ∈ (ordsF ns j).flatMap _ ↔ _
    rw [List.mem_flatMap]
    constructor
    · rintro ⟨p, hp, ho⟩
      obtain ⟨z, hz, rfl⟩ := List.mem_map.mp ho
      obtain ⟨hz1, hz2⟩ := List.mem_filter.mp hz
      obtain ⟨h1, h2, h3⟩ := ordsF_mem.mp hp
      have hz2 : z ∉ p := by simpa using hz2
      refine ⟨by rw [List.length_append, h1]; rfl, ?_, fun y hy => ?_⟩
      · rw [List.nodup_append]
        exact ⟨h2, by simp, fun a ha b hb e => hz2 (by rw [List.mem_singleton.mp hb] at e; rw [← e]; exact ha)⟩
      · rcases List.mem_append.mp hy with hy | hy
        · exact h3 y hy
        · rw [List.mem_singleton.mp hy]; exact hz1
    · rintro ⟨h1, h2, h3⟩
      have hne : o ≠ [] := fun e => by rw [e] at h1; cases h1
      obtain ⟨p, z, rfl⟩ : ∃ p z, o = p ++ [z] := ⟨o.dropLast, o.getLast hne, (List.dropLast_concat_getLast hne).symm⟩
      rw [List.nodup_append] at h2
      rw [List.length_append] at h1
      refine ⟨p, ordsF_mem.mpr ⟨Nat.succ.inj h1, h2.1, fun y hy => h3 y (List.mem_append_left _ hy)⟩, List.mem_map.mpr ⟨z, List.mem_filter.mpr ⟨h3 z (by simp), ?_⟩, rfl⟩⟩
      have : z ∉ p := fun h => h2.2.2 z h z (by simp) rfl
      simp [this]
theorem ordsF_ord {ns : List Str} (nd : ns.Nodup) {o : List Str} : o ∈ ordsF ns ns.length ↔ OrdOk ns o := by
  rw [ordsF_mem]
  constructor
  · rintro ⟨h1, h2, h3⟩
    refine ⟨(List.perm_ext_iff_of_nodup h2 nd).mpr fun z => ⟨h3 z, fun hz => ?_⟩⟩
    refine Classical.byContradiction fun hn => ?_
    have := nd_le (xs := z :: o) (ys := ns) (List.nodup_cons.mpr ⟨hn, h2⟩) fun y hy => by
      rcases List.mem_cons.mp hy with rfl | hy
      · exact hz
      · exact h3 y hy
    rw [List.length_cons] at this
    omega
  · intro O
    exact ⟨O.pm.length_eq, O.pm.nodup_iff.mpr nd, fun z hz => O.pm.mem_iff.mp hz⟩
theorem ordD_app (o : List Str) (z : Str) : PyData.tuple (o.map .str ++ [.str z]) = ordD (o ++ [z]) := by
  show _ = PyData.tuple (List.map _ _)
  rw [List.map_append]
  rfl
theorem pow5 {n : Nat} (h : n ≤ 5) : n ^ n ≤ 3125 := by
  have : n = 0 ∨ n = 1 ∨ n = 2 ∨ n = 3 ∨ n = 4 ∨ n = 5 := by omega
  rcases this with rfl | rfl | rfl | rfl | rfl | rfl <;> decide
theorem pow5j {n j : Nat} (h : n ≤ 5) (hj : j ≤ n) : n ^ j ≤ 3125 := by
  by_cases h0 : n = 0
  · subst h0
    have : j = 0 := by omega
    subst this
    decide
  · exact Nat.le_trans (Nat.pow_le_pow_right (by omega) hj) (pow5 h)
theorem e_law_orders {ns : List Str} {rs : List (Str × Str)} (W : WebOk (fun z => nameS z = true) ns rs) (h5 : ns.length ≤ 5) {Q : RV → Ev → Prop} (kq : Q (.d (.list ((ordsF ns ns.length).map ordD))) [.v (webD ns rs)]) : wp fm__law_orders [.v (webD ns rs)] Q := by
  unfold fm__law_orders ms__law_orders
  repeat infer_instance
  refine w_for ?_
  repeat infer_instance
  refine v_loopF (fun j ρ => ∃ x1 x2 x3 x4 : DV, ((j = 0 ∧ x1 = .own (.L ((ordsF ns j).map ordD))) ∨ x1 = .v (.list ((ordsF ns j).map ordD))) ∧ noBrw (some x2) = true ∧ noBrw (some x3) = true ∧ noBrw (some x4) = true ∧ ρ = [.v (webD ns rs), x1, x2, x3, x4, .un]) ⟨_, _, _, _, .inl ⟨rfl, rfl⟩, rfl, rfl, rfl, rfl⟩ ?_ ?_
  · rintro j z0 ρ hj ⟨x1, x2, x3, x4, h1, h2, h3, h4, rfl⟩
    have jl := (List.getElem?_eq_some_iff.mp hj).1
    have lj := Nat.le_trans (ordsF_len (ns := ns) j) (pow5j h5 (by omega))
    have lj1 := Nat.le_trans (ordsF_len (ns := ns) (j + 1)) (pow5j h5 (by omega))
    refine t_name (by with_unfolding_all first | exact rfl | assumption) rfl ?_
    repeat infer_instance
    refine w_for ?_
    have start : ∀ {Q : List D → Ev → Prop}, Q ((ordsF ns j).map ordD) [.v (webD ns rs), .v (.list ((ordsF ns j).map ordD)), .v (.str z0), .own (.L []), x4, .un] → wp (mSeqI (mVar 1)) [.v (webD ns rs), x1, .v (.str z0), .own (.L []), x4, .un] Q := fun {Q} q => by
      rcases h1 with ⟨_, rfl⟩ | rfl
      all_goals
        repeat infer_instance
        exact q
    refine start ?_
    refine v_loopF (fun b ρ => ∃ x4 : DV, noBrw (some x4) = true ∧ ρ = [.v (webD ns rs), .v (.list ((ordsF ns j).map ordD)), .v (.str z0), .own (.L ((((ordsF ns j).take b).flatMap fun o => (ns.filter fun z => !decide (z ∈ o)).map fun z => o ++ [z]).map ordD)), x4, .un]) ⟨x4, h4, rfl⟩ ?_ ?_
    · rintro b o ρ hb ⟨x4, h4, rfl⟩
      have ho := ordsF_mem.mp (List.mem_of_getElem? hb)
      have ol : o.length ≤ 5 := by omega
      have onm : ∀ y ∈ o, nameS y = true := fun y hy => W.nm y (ho.2.2 y hy)
      repeat infer_instance
      refine v_lc ?_
      repeat infer_instance
      refine v_cfiltF (by (try (show wipeE (_ :: _) _ = _)); dsimp only [wipeE, List.set] <;> exact rfl) (fun z => !decide (z ∈ o)) (fun z => ordD (o ++ [z])) (by omega) (fun i z hz => ?_) ?_
      · repeat infer_instance
        refine o_notinT (str_shaped (nameS_ok (W.nm z (List.mem_of_getElem? hz)))) (shaped_tup (flat_str fun y hy => nameS_ok (onm y hy)) (by decide)) ?_
        rw [any_strs]
        repeat infer_instance
        refine ⟨rfl, fun _ => ?_, fun _ => by (try (show wipeE (_ :: _) _ = _)); dsimp only [wipeE, List.set] <;> exact rfl⟩
        repeat infer_instance
        refine o_addT (by rw [List.length_map, sizeLine_eq]; show _ + 1 ≤ _; omega) ?_
        rw [ordD_app]
        repeat infer_instance
        exact ⟨rfl, rfl⟩
      repeat infer_instance
      have bl : (((ordsF ns j).take b).flatMap fun o => (ns.filter fun z => !decide (z ∈ o)).map fun z => o ++ [z]).length ≤ 3125 * 5 := by
        refine Nat.le_trans (flatLe (c := 5) fun o => ?_) (Nat.mul_le_mul_right _ (by rw [List.length_take]; omega))
        rw [List.length_map]
        exact Nat.le_trans (List.length_filter_le _ _) h5
      have fl : (ns.filter fun z => !decide (z ∈ o)).length ≤ 5 := Nat.le_trans (List.length_filter_le _ _) h5
      refine v_ext rfl (by rw [List.length_map, List.length_map, sizeLine_eq]; omega) rfl ?_
      repeat infer_instance
      refine ⟨.v (ordD o), rfl, ?_⟩
      rw [List.take_succ, hb, List.flatMap_append, List.map_append]
      simp [List.map_map, Function.comp_def]
    · rintro ρ ⟨x4, h4, rfl⟩
      rw [List.take_length]
      repeat infer_instance
      exact ⟨_, _, _, _, .inr rfl, rfl, rfl, h4, rfl⟩
  · rintro ρ ⟨x1, x2, x3, x4, h1, h2, h3, h4, rfl⟩
    rcases h1 with ⟨h1, _⟩ | rfl
    · have := W.l1
      omega
    · repeat infer_instance
      exact kq

/-! ### V42: all orders to which exchanges lead -/
section
variable {ns : List Str} {rs : List (Str × Str)} {ord : List Str}
theorem o_eqArs {A B : List (Str × Str)} (ha : NmOk A) (hb : NmOk B) {K : RV → Prop} (q : K (.d (.bool (decide (A = B))))) : op2 gEq (arsD A) (arsD B) K := ⟨.d (.bool (decide (A = B))), by
  unfold gEq
  rw [if_pos (.inr ⟨shaped_ars ha, shaped_ars hb⟩), ars_eqv], q⟩
theorem e_are_alike {oth : List Str} (W : WebOk (fun z => nameS z = true) ns rs) (O : OrdOk ns ord) (O2 : OrdOk ns oth) {Q : RV → Ev → Prop}
    (kq : Q (.d (.bool (decide (ars ord rs = ars oth rs)))) [.v (webD ns rs), .v (ordD ord), .v (ordD oth)]) : wp fm_are_alike [.v (webD ns rs), .v (ordD ord), .v (ordD oth)] Q := by
  unfold fm_are_alike ms_are_alike
  repeat infer_instance
  refine e_need_two_orders W O O2 ?_
  repeat infer_instance
  refine e_arrows_of W O ?_
  repeat infer_instance
  refine e_arrows_of W O2 ?_
  repeat infer_instance
  refine o_eqArs (ars_ok W ord) (ars_ok W oth) ?_
  repeat infer_instance
  exact kq
theorem leads_last {d : D} {o : List Str} : ∀ {ds : List D} {ord : List Str}, leadsL rs ord (ds ++ [d]) o = true → ∃ cur, leadsL rs ord ds cur = true ∧ stepO rs cur d = some o
  | [], ord, h => by
    have h : (match stepO rs ord d with | some o' => leadsL rs o' [] o | none => false) = true := h
    cases hd : stepO rs ord d with
    | none => rw [hd] at h; cases h
    | some o' =>
      rw [hd] at h
      have h : o' = o := of_decide_eq_true h
      exact ⟨ord, decide_eq_true rfl, by rw [hd, h]⟩
  | x :: ds, ord, h => by
    have h : (match stepO rs ord x with | some o' => leadsL rs o' (ds ++ [d]) o | none => false) = true := h
    cases hx : stepO rs ord x with
    | none => rw [hx] at h; cases h
    | some o' =>
      rw [hx] at h
      obtain ⟨cur, h1, h2⟩ := leads_last (ds := ds) h
      refine ⟨cur, ?_, h2⟩
      show (match stepO rs ord x with | some o' => leadsL rs o' ds cur | none => false) = true
      rw [hx]
      exact h1
theorem step_nD {cur o : List Str} {i : Nat} (h : stepO rs cur (nD i) = some o) : exB rs cur i = true ∧ o = mvA cur (.swap i) := by
  by_cases hx : exB rs cur i = true
  · rw [step_ex hx] at h
    exact ⟨hx, (Option.some.inj h).symm⟩
  · have h : (if 0 ≤ ((i : Nat) : Int) ∧ exB rs cur ((i : Nat) : Int).toNat = true then some (mvA cur (.swap ((i : Nat) : Int).toNat)) else none) = some o := h
    rw [if_neg (fun e => hx e.2)] at h
    cases h
/-- orders that may be reached -/
structure Rch (ns : List Str) (rs : List (Str × Str)) (ord : List Str) (G : List (List Str)) : Prop where
  nd : G.Nodup
  ok : ∀ o ∈ G, OrdOk ns o ∧ ars o rs = ars ord rs
def Clo (rs : List (Str × Str)) (G : List (List Str)) (o : List Str) : Prop := ∀ i, exB rs o i = true → mvA o (.swap i) ∈ G
structure Fld (ns : List Str) (rs : List (Str × Str)) (ord : List Str) (t : Nat) (G B : List (List Str)) : Prop where
  rc : Rch ns rs ord G
  sub : ∀ o ∈ B, o ∈ G
  cl : ∀ o ∈ G, o ∉ B → Clo rs G o
  lev : ∀ is : List Nat, is.length ≤ t → ∀ o, leadsL rs ord (is.map nD) o = true → o ∈ G
theorem Rch.len (W : WebOk (fun z => nameS z = true) ns rs) (h5 : ns.length ≤ 5) {G : List (List Str)} (R : Rch ns rs ord G) : G.length ≤ 3125 :=
  Nat.le_trans (nd_le R.nd fun o ho => (ordsF_ord W.nd).mpr (R.ok o ho).1) (Nat.le_trans (ordsF_len _) (pow5 h5))
theorem Fld.next {t : Nat} {G B M : List (List Str)} (F : Fld ns rs ord t G B) (R : Rch ns rs ord (G ++ M)) (hB : ∀ o ∈ B, Clo rs (G ++ M) o) : Fld ns rs ord (t + 1) (G ++ M) M where
  rc := R
  sub := fun _ h => List.mem_append_right _ h
  cl := fun o h hn => by
    rcases List.mem_append.mp h with h | h
    · by_cases hb : o ∈ B
      · exact hB o hb
      · exact fun i hi => List.mem_append_left _ (F.cl o h hb i hi)
    · exact absurd h hn
  lev := fun is hl o h => by
    by_cases h0 : is.length ≤ t
    · exact List.mem_append_left _ (F.lev is h0 o h)
    · have hne : is ≠ [] := fun e => h0 (by rw [e]; exact Nat.zero_le _)
      obtain ⟨js, i, rfl⟩ : ∃ js i, is = js ++ [i] := ⟨is.dropLast, is.getLast hne, (List.dropLast_concat_getLast hne).symm⟩
      rw [List.map_append] at h
      obtain ⟨cur, h1, h2⟩ := leads_last h
      obtain ⟨hx, rfl⟩ := step_nD h2
      rw [List.length_append, List.length_singleton] at hl
      have hc := F.lev js (by omega) cur h1
      by_cases hb : cur ∈ B
      · exact hB cur hb i hx
      · exact List.mem_append_left _ (F.cl cur hc hb i hx)
theorem Fld.all {G B : List (List Str)} (W : WebOk (fun z => nameS z = true) ns rs) (h5 : ns.length ≤ 5) (O : OrdOk ns ord) (F : Fld ns rs ord 60 G B) (o : List Str) : o ∈ G ↔ OrdOk ns o ∧ ars o rs = ars ord rs := by
  constructor
  · exact F.rc.ok o
  · rintro ⟨h1, h2⟩
    rcases exchanges_is W O h1 with ⟨hne, _⟩ | ⟨_, is, ld, il, _, _⟩
    · exact absurd h2.symm hne
    · exact F.lev is (by omega) o ld
end

/-! ### V43: webs of so many places at most -/
theorem e_law_wide_webL {n : Nat} {a b c most : Int} (F : FeedOk n a b c) (hn : n + 2000 < 10 ^ 9) (m0 : 1 ≤ most) (m1 : most ≤ 8) {Q : RV → Ev → Prop}
    (k : ∀ ns rs (a' b' c' : Int), WebOk (· ∈ pool12) ns rs → (ns.length : Int) ≤ max 3 most → FeedOk (n + 100) a' b' c' → Q (.d (webD ns rs)) [.brw (fd a' b' c'), .v (.int most)]) :
    wp fm__law_wide_web [.brw (fd a b c), .v (.int most)] Q := by
  unfold fm__law_wide_web ms__law_wide_web
  repeat infer_instance
  refine e_draw F (by omega) (by omega) (by omega) fun r a b c F r0 r1 => ?_
  obtain ⟨m, hm⟩ : ∃ m : Nat, 1 + r = (m : Int) := ⟨(1 + r).toNat, by omega⟩
  repeat infer_instance
  rw [hm]
  repeat infer_instance
  refine e_names F (by omega) (by omega) (by omega) fun zs a b c zl znd zp F => ?_
  have zl : zs.length = m := zl
  have hm8 : m ≤ 8 := by omega
  have hm1 : 1 ≤ m := by omega
  have zat : ∀ i : Nat, i < m → (zs.map PyData.str)[i]? = some (.str (nmI zs (i : Int))) := fun i hi => by
    obtain ⟨e, _⟩ := at_nm (zs := zs) (i := (i : Int)) (by omega) (by omega)
    have := at_int (xs := zs.map PyData.str) (i := (i : Int)) (by omega) (by rw [List.length_map]; omega)
    obtain ⟨x, e1, e2⟩ := this
    rw [e] at e1
    cases e1
    exact e2
  repeat infer_instance
  refine w_for ?_
  repeat infer_instance
  refine v_r1 (by omega) ?_
  rw [show Int.toNat (m : Int) = m from rfl]
  refine v_loopF (fun j ρ => ∃ x5 : DV, fr x5 = true ∧ ρ = [.brw (fd a b c), .v (.int most), .v (.int m), .own (.L ((prs j).map fun p => sD (flp zs p))), .own (.L (zs.map .str)), x5, .un, .un, .un, .un]) ⟨.un, rfl, rfl⟩ ?_ ?_
  · rintro j i ρ hj ⟨x5, h5, rfl⟩
    obtain ⟨rfl, hi⟩ := rg_get hj
    have pl := prs_len i
    have pl2 : i * i ≤ 8 * 8 := Nat.mul_le_mul (by omega) (by omega)
    repeat infer_instance
    refine v_lc ?_
    repeat infer_instance
    refine v_r1 (by omega) ?_
    repeat infer_instance
    rw [show Int.toNat (i : Int) = i from rfl]
    refine v_cmapF (by (try (show wipeE (_ :: _) _ = _)); dsimp only [wipeE, List.set] <;> exact rfl) (fun (l : Nat) => sD (flp zs ((l : Int), (i : Int)))) (by rw [List.length_range]; omega) (fun l' l hl' => ?_) ?_
    · obtain ⟨rfl, hl⟩ := rg_get hl'
      repeat infer_instance
      refine ⟨rfl, ?_⟩
      repeat infer_instance
      refine o_ixL (at_nat (zat i hi)) ?_
      repeat infer_instance
      refine o_ixL (at_nat (zat l (by omega))) ?_
      repeat infer_instance
      exact ⟨rfl, rfl⟩
    repeat infer_instance
    refine v_ext rfl (by rw [List.length_map, List.length_map, List.length_range, sizeLine_eq]; omega) (by (try (show List.set (_ :: _) _ _ = _)); dsimp only [List.set] <;> exact rfl) ?_
    repeat infer_instance
    refine ⟨.v (.int i), rfl, ?_⟩
    rw [prs_succ, List.map_append, List.map_map]
    rfl
  · rintro ρ ⟨x5, h5, rfl⟩
    rw [List.length_range]
    have pl := prs_len m
    have pl2 : m * m ≤ 8 * 8 := Nat.mul_le_mul (by omega) (by omega)
    repeat infer_instance
    refine e_mixed (ds := (prs m).map fun p => sD (flp zs p)) F (by rw [List.length_map]; omega) (.br _) (by rw [List.length_map]; omega) fun xs a b c pm F => ?_
    rw [List.length_map] at F
    obtain ⟨ps, rfl, hps⟩ := perm_map pm (prs m) rfl
    have psl := hps.length_eq
    repeat infer_instance
    rw [List.length_map]
    refine e_draw F (by omega) (by omega) (by omega) fun t a b c F t0 t1 => ?_
    repeat infer_instance
    rw [cut_take t0, ← List.map_take]
    obtain ⟨qs, hqs⟩ : ∃ qs, qs = ps.take t.toNat := ⟨_, rfl⟩
    rw [← hqs]
    have ql : qs.length ≤ 14 := by
      rw [hqs, List.length_take]
      have : t < min 14 ((prs m).length : Int) + 1 := t1
      omega
    have qok : ∀ p ∈ qs, 0 ≤ p.1 ∧ p.1 < p.2 ∧ p.2 < zs.length := fun p hp => by
      rw [hqs] at hp
      have := prs_mem (hps.mem_iff.mp (List.mem_of_mem_take hp))
      omega
    have qnd : qs.Nodup := by
      rw [hqs]
      exact ((hps.nodup_iff).mpr (prs_nodup m)).sublist (List.take_sublist _ _)
    repeat infer_instance
    refine v_lc ?_
    repeat infer_instance
    refine v_cdrw (q := 1) (E := fun o => [.brw o, .v (.int most), .v (.int m), .own (.L ((prs m).map fun p => sD (flp zs p))), .own (.L (zs.map .str)), x5, .v (.list (qs.map fun p => sD (flp zs p))), .un, .un, .un]) (P := fun j y => ∃ r : Str × Str, (∀ p, qs[j]? = some p → r = (nmI zs p.1, nmI zs p.2) ∨ r = (nmI zs p.2, nmI zs p.1)) ∧ y = sD r) (by (try (show wipeE (_ :: _) _ = _)); dsimp only [wipeE, List.set] <;> exact rfl) F (by omega) (fun j p a b c hj hlt F => ?_) (fun ys a b c hyl hP F => ?_)
    · show tg1 _ (.tuple [.str (nmI zs p.2), .str (nmI zs p.1)]) _ _
      repeat infer_instance
      refine ⟨rfl, ?_⟩
      repeat infer_instance
      refine e_draw F (by omega) (by omega) (by omega) fun r a b c F r0 r1 => ?_
      repeat infer_instance
      refine if_b (fun h => ?_) (fun h => ?_)
      · repeat infer_instance
        exact ⟨⟨_, fun p' e => by rw [hj] at e; cases e; exact .inl rfl, rfl⟩, a, b, c, by (try (show wipeE (_ :: _) _ = _)); dsimp only [wipeE, List.set] <;> exact rfl, F⟩
      · repeat infer_instance
        exact ⟨⟨_, fun p' e => by rw [hj] at e; cases e; exact .inr rfl, rfl⟩, a, b, c, by (try (show wipeE (_ :: _) _ = _)); dsimp only [wipeE, List.set] <;> exact rfl, F⟩
    obtain ⟨rs, rfl, hr⟩ := ex_map hP
    rw [List.length_map] at hyl
    repeat infer_instance
    refine e_mixed (ds := zs.map .str) F (by rw [List.length_map]; omega) (.br _) (by rw [List.length_map]; omega) fun xs a b c pm2 F => ?_
    rw [List.length_map] at F
    obtain ⟨ns, rfl, hns⟩ := perm_map pm2 zs rfl
    repeat infer_instance
    have R := roads_ok (zs := zs) (ps := qs) (rs := rs) znd qnd qok hyl fun k p hk hp => by
      have e := List.getElem?_eq_getElem hk
      rcases hr k _ e p hp with h | h
      · exact .inl (by rw [e, h])
      · exact .inr (by rw [e, h])
    refine k ns rs a b c ⟨(hns.nodup_iff).mpr znd, fun z hz => zp z (hns.mem_iff.mp hz), by rw [hns.length_eq]; omega, by rw [hns.length_eq]; omega, by omega, fun r hr' => ?_, R.2⟩ (by rw [hns.length_eq]; omega) (F.mono (by omega))
    obtain ⟨h1, h2, h3⟩ := R.1 r hr'
    exact ⟨hns.mem_iff.mpr h1, hns.mem_iff.mpr h2, h3⟩
theorem e_law_any_webL {n : Nat} {a b c most : Int} (F : FeedOk n a b c) (hn : n + 4000 < 10 ^ 9) (m0 : 1 ≤ most) (m1 : most ≤ 8) {Q : RV → Ev → Prop}
    (k : ∀ ns rs (a' b' c' : Int), WebOk (fun z => nameS z = true) ns rs → (ns.length : Int) ≤ max 3 most → FeedOk (n + 200) a' b' c' → Q (.d (webD ns rs)) [.brw (fd a' b' c'), .v (.int most)]) :
    wp fm__law_any_web [.brw (fd a b c), .v (.int most)] Q := by
  unfold fm__law_any_web ms__law_any_web
  repeat infer_instance
  refine e_draw F (by omega) (by decide) (by decide) fun r a b c F r0 r1 => ?_
  repeat infer_instance
  refine if_b (fun h => ?_) (fun h => ?_)
  · repeat infer_instance
    refine e_law_wide_webL F (by omega) m0 m1 fun ns rs a b c W wl F => ?_
    repeat infer_instance
    exact k ns rs a b c (web_mono W) wl (F.mono (by omega))
  · repeat infer_instance
    refine e_one F (by omega) (.br _) (by simp) (by simp) fun x a b c hx F => ?_
    obtain ⟨way, rfl, hw⟩ : ∃ way : Str, x = .str way ∧ PyData.strOk way = true := by
      simp only [List.mem_cons, List.not_mem_nil, or_false] at hx
      rcases hx with rfl | rfl | rfl | rfl <;> exact ⟨_, rfl, by decide +kernel⟩
    repeat infer_instance
    refine e_webL F (by omega) m0 m1 hw fun ns rs a b c W wl F => ?_
    repeat infer_instance
    exact k ns rs a b c (web_mono W) wl (F.mono (by omega))

/-! ### V44: the first two states that a place's step makes one, as the law finds them -/
section
variable {α : Type} {kf vf : α → D} {kk : α → NestedKey}
theorem gM_none [DecidableEq α] {xs : List α} {z : α} (hk : ∀ x, keyD (kf x) = some (kk x)) (inj : ∀ x y, kk x = kk y → x = y) (hn : z ∉ xs) : dFind (gM kf vf xs) (kk z) = none := by
  rw [gM_find hk inj, List.find?_eq_none.mpr fun x hx h => hn (by rw [← of_decide_eq_true h]; exact hx)]
  rfl
end
section
variable {k : Nat} {ns : List Str} {rs : List (Str × Str)} {rules : List Rl} {i : Nat} {z : Str} {st : List Nat}
end

def blk (k : Nat) (T : List Nat) (b : Nat) : List Nat := (T.drop (b * k)).take k
/-! ### V46: a step can be undone just where no two states that differ at its place alone become one -/
section
variable {k : Nat} {ns : List Str} {rs : List (Str × Str)} {rules : List Rl} {i : Nat} {z : Str} {r : Rl} {st : List Nat}
end

/-! ### V47: the first two states that a place's step makes one, as the program finds them -/
section
variable {k : Nat} {ns : List Str} {rs : List (Str × Str)} {rules : List Rl} {i : Nat} {z : Str} {r : Rl} {st : List Nat}
end

/-! ### V48: the weight of a state of a quiet hall; each step that changes a state makes it less -/
section
variable {ns : List Str} {rs : List (Str × Str)} {ms st : List Nat} {z : Str} {i : Nat}
end

/-! ### V49: weights, as law and program reckon them -/
section
variable {ns : List Str} {rs : List (Str × Str)} {ms st : List Nat} {z : Str} {i : Nat}
end

/-! ### V50: weights of all states, the lightest ones -/
section
variable {ns : List Str} {rs : List (Str × Str)} {ms st : List Nat} {z : Str} {i : Nat}
end

/-! ### V51: groups of places, joined road by road -/
section
variable {ns : List Str} {rs : List (Str × Str)}
def grpS (g : Str → List Str) (r : Str × Str) : Str → List Str := if r.2 ∈ g r.1 then g else fun p => if p ∈ g r.1 ++ g r.2 then g r.1 ++ g r.2 else g p
structure GrOk (ns : List Str) (g : Str → List Str) : Prop where
  own : ∀ p ∈ ns, p ∈ g p
  sub : ∀ p ∈ ns, ∀ q ∈ g p, q ∈ ns
  nd : ∀ p ∈ ns, (g p).Nodup
  eq : ∀ p ∈ ns, ∀ q ∈ g p, g q = g p
theorem GrOk.apart {g : Str → List Str} (G : GrOk ns g) {a b x : Str} (ha : a ∈ ns) (hb : b ∈ ns) (h : b ∉ g a) (h1 : x ∈ g a) : x ∉ g b := fun h2 => by
  have e := (G.eq a ha x h1).symm.trans (G.eq b hb x h2)
  exact h (by rw [e]; exact G.own b hb)
theorem GrOk.step {g : Str → List Str} (G : GrOk ns g) {r : Str × Str} (h1 : r.1 ∈ ns) (h2 : r.2 ∈ ns) : GrOk ns (grpS g r) := by
  unfold grpS
  by_cases h : r.2 ∈ g r.1
  · rw [if_pos h]
    exact G
  rw [if_neg h]
  have sm : ∀ x, x ∈ g r.1 ++ g r.2 → x ∈ ns := fun x hx => by
    rcases List.mem_append.mp hx with hx | hx
    · exact G.sub _ h1 x hx
    · exact G.sub _ h2 x hx
  have same : ∀ p ∈ ns, ∀ q ∈ g p, (q ∈ g r.1 ++ g r.2 ↔ p ∈ g r.1 ++ g r.2) := fun p hp q hq => by
    have e := G.eq p hp q hq
    have up : ∀ a ∈ ns, (q ∈ g a ↔ p ∈ g a) := fun a ha => ⟨fun h => by
      have := (G.eq a ha q h).symm.trans e
      rw [this]
      exact G.own p hp, fun h => by rw [← G.eq a ha p h]; exact hq⟩
    rw [List.mem_append, List.mem_append, up _ h1, up _ h2]
  refine ⟨fun p hp => ?_, fun p hp q hq => ?_, fun p hp => ?_, fun p hp q hq => ?_⟩
  · split
    · assumption
    · exact G.own p hp
  · split at hq
    · exact sm q hq
    · exact G.sub p hp q hq
  · split
    · rw [List.nodup_append]
      exact ⟨G.nd _ h1, G.nd _ h2, fun x hx y hy e => G.apart h1 h2 h hx (by rw [e]; exact hy)⟩
    · exact G.nd p hp
  · split at hq
    · rename_i hp2
      show (if q ∈ g r.1 ++ g r.2 then g r.1 ++ g r.2 else g q) = if p ∈ g r.1 ++ g r.2 then g r.1 ++ g r.2 else g p
      rw [if_pos hq, if_pos hp2]
    · rename_i hp2
      show (if q ∈ g r.1 ++ g r.2 then g r.1 ++ g r.2 else g q) = if p ∈ g r.1 ++ g r.2 then g r.1 ++ g r.2 else g p
      rw [if_neg (fun hm => hp2 ((same p hp q hq).mp hm)), if_neg hp2]
      exact G.eq p hp q hq
/-- groups grow -/
theorem GrOk.grow {g : Str → List Str} (G : GrOk ns g) {r : Str × Str} (h1 : r.1 ∈ ns) (h2 : r.2 ∈ ns) {p q : Str} (hp : p ∈ ns) (hq : q ∈ g p) : q ∈ grpS g r p := by
  unfold grpS
  by_cases h : r.2 ∈ g r.1
  · rw [if_pos h]; exact hq
  · rw [if_neg h]
    split
    · rename_i hm
      rcases List.mem_append.mp hm with hm | hm
      · exact List.mem_append_left _ (by rw [← G.eq _ h1 p hm]; exact hq)
      · exact List.mem_append_right _ (by rw [← G.eq _ h2 p hm]; exact hq)
    · exact hq
end

/-! ### V52: the pieces of a web: their number and sizes -/
section
variable {ns : List Str} {rs : List (Str × Str)} {g : Str → List Str}
end

/-! ### V53: the places that roads join to a place -/
theorem v_while {c : MT} {b : MS} {QO : Out → Ev → Prop} (Inv : Nat → Ev → Prop) (step : ∀ (n : Nat) (ρ : Ev), Inv n ρ → wp c ρ fun t ρ1 => if t = true then wp b ρ1 (endq (fun ρ2 => ∃ m, m < n ∧ Inv m ρ2) QO) else QO .nx ρ1) :
    ∀ (N n : Nat) (ρ : Ev), n < N → Inv n ρ → wp (mWhile c b N) ρ QO
  | 0, _, _, h, _ => absurd h (by omega)
  | N + 1, n, ρ, h, I => by
    obtain ⟨t, ρ1, e1, h1⟩ := step n ρ I
    cases t with
    | false =>
      refine ⟨.nx, ρ1, ?_, by simpa using h1⟩
      unfold mWhile
      rw [e1]
      rfl
    | true =>
      have h1 : wp b ρ1 (endq (fun ρ2 => ∃ m, m < n ∧ Inv m ρ2) QO) := by simpa using h1
      obtain ⟨o, ρ2, e2, k⟩ := h1
      cases o with
      | nx =>
        obtain ⟨m, hm, J⟩ := k
        obtain ⟨o', ρ3, e3, k3⟩ := v_while Inv step N m ρ2 (by omega) J
        refine ⟨o', ρ3, ?_, k3⟩
        show ((c ρ).bind _) = _
        rw [e1]
        show ((b ρ1).bind _) = _
        rw [e2]
        exact e3
      | ct =>
        obtain ⟨m, hm, J⟩ := k
        obtain ⟨o', ρ3, e3, k3⟩ := v_while Inv step N m ρ2 (by omega) J
        refine ⟨o', ρ3, ?_, k3⟩
        show ((c ρ).bind _) = _
        rw [e1]
        show ((b ρ1).bind _) = _
        rw [e2]
        exact e3
      | bk =>
        refine ⟨.nx, ρ2, ?_, k⟩
        show ((c ρ).bind _) = _
        rw [e1]
        show ((b ρ1).bind _) = _
        rw [e2]
        rfl
      | rt r =>
        refine ⟨.rt r, ρ2, ?_, k⟩
        show ((c ρ).bind _) = _
        rw [e1]
        show ((b ρ1).bind _) = _
        rw [e2]
        rfl
section
variable {ns : List Str} {rs : List (Str × Str)} {p : Str}
/-- what the flood holds -/
structure Jn (ns : List Str) (rs : List (Str × Str)) (p : Str) (F L : List Str) : Prop where
  nd : F.Nodup
  own : p ∈ F
  sub : ∀ q ∈ F, q ∈ ns
  lf : ∀ q ∈ L, q ∈ F
  cl : ∀ q ∈ F, q ∉ L → ∀ o ∈ nbs ns rs q, o ∈ F
  least : ∀ C : Str → Prop, C p → (∀ q ∈ ns, C q → ∀ o ∈ nbs ns rs q, C o) → ∀ q ∈ F, C q
theorem Jn.len (W : ns.Nodup) {F L : List Str} (J : Jn ns rs p F L) : F.length ≤ ns.length := nd_le J.nd J.sub
end

/-! ### V54: pieces, is_forest, neighbours -/
section
variable {ns : List Str} {rs : List (Str × Str)} {p : Str}
end

/-! ### V55: the law's own pieces -/
section
variable {ns : List Str} {rs : List (Str × Str)} {p : Str}
end
end PK

namespace PK
open PySem PySem.Spec PyProof.Rows L2 PL
variable [TheW]
local macro_rules | `(tactic| infer_instance) => `(tactic| dsimp only)
local macro_rules | `(tactic| infer_instance) => `(tactic| with_reducible refine le_ok (by with_unfolding_all rfl) ?_)
local macro_rules | `(tactic| infer_instance) => `(tactic| with_reducible refine pick_ok (by with_unfolding_all rfl) (by dsimp only [pick, List.filterMap, List.getElem?_cons_succ, List.getElem?_cons_zero] <;> exact rfl) ?_)
local macro_rules | `(tactic| infer_instance) => `(tactic| with_reducible refine free_ok (by with_unfolding_all rfl) ?_)
local macro_rules | `(tactic| infer_instance) => `(tactic| with_reducible refine ty_ok (by with_unfolding_all rfl) ?_)
local macro_rules | `(tactic| infer_instance) => `(tactic| (with_reducible refine g_chq ?_; first | with_reducible refine ch_lt ?_ | with_reducible refine ch_le ?_))
local macro_rules | `(tactic| infer_instance) => `(tactic| (with_reducible refine g_sl1 ?_; first | with_reducible refine s1_T ?_ | with_reducible refine s1_L ?_))
local macro_rules | `(tactic| infer_instance) => `(tactic| (with_reducible refine g_op1 ?_; first | with_reducible refine v_revT ?_ | with_reducible refine v_revL ?_ | with_reducible refine o_isi_t (by with_unfolding_all rfl) ?_ | with_reducible refine o_isi_f (by with_unfolding_all rfl) ?_))
local macro_rules | `(tactic| infer_instance) => `(tactic| (with_reducible refine g_sq1 ?_; first | with_reducible refine sq_S ?_ | with_reducible refine sq_T ?_ | with_reducible refine sq_L ?_))
local macro_rules | `(tactic| infer_instance) => `(tactic| with_reducible refine isI_ok ?_)
local macro_rules | `(tactic| infer_instance) => `(tactic| (with_reducible refine g_mtk ?_; first | with_reducible refine v_appB (by with_unfolding_all rfl) (by simp only [List.length_map, List.length_append, List.length_cons, List.length_nil, List.length_range, List.length_take, sizeLine_eq]; omega) (by (try (show List.set (_ :: _) _ _ = _)); dsimp only [List.set] <;> exact rfl) ?_ | with_reducible refine v_app (by with_unfolding_all rfl) (by simp only [List.length_map, List.length_append, List.length_cons, List.length_nil, List.length_range, List.length_take, sizeLine_eq]; omega) (by (try (show List.set (_ :: _) _ _ = _)); dsimp only [List.set] <;> exact rfl) ?_))
local macro_rules | `(tactic| infer_instance) => `(tactic| (with_reducible refine g_ret1 ?_; first | with_reducible refine ret_nl (by first | (dsimp only [pbs, setOc, List.getElem?_cons_succ, List.getElem?_cons_zero, List.set] <;> exact rfl) | exact rfl) ?_ | with_reducible refine ret_ob (by first | (dsimp only [pbs, setOc, List.getElem?_cons_succ, List.getElem?_cons_zero, List.set] <;> exact rfl) | exact rfl) ?_ | with_reducible refine ret_d (by first | (dsimp only [pbs, setOc, List.getElem?_cons_succ, List.getElem?_cons_zero, List.set] <;> exact rfl) | exact rfl) ?_))
local macro_rules | `(tactic| infer_instance) => `(tactic| with_reducible refine callq_ok (by with_unfolding_all rfl) ?_)
local macro_rules | `(tactic| infer_instance) => `(tactic| (with_reducible refine g_stoAll ?_; first | with_reducible refine sa_cons (by with_unfolding_all rfl) ?_ | with_reducible refine sa_nil ?_))
local macro_rules | `(tactic| infer_instance) => `(tactic| (with_reducible refine g_sto ?_; first | with_reducible refine v_sto_al (by with_unfolding_all rfl) (by (try (show List.set (_ :: _) _ _ = _)); dsimp only [List.set] <;> exact rfl) (by with_unfolding_all first | exact rfl | assumption | exact fr_nb (by assumption)) (by (try (show List.set (_ :: _) _ _ = _)); dsimp only [List.set] <;> exact rfl) ?_ | with_reducible refine v_sto_nl (by with_unfolding_all first | exact rfl | assumption | exact fr_nb (by assumption)) (by (try (show List.set (_ :: _) _ _ = _)); dsimp only [List.set] <;> exact rfl) ?_ | with_reducible refine v_sto_d (by with_unfolding_all first | exact rfl | assumption | exact fr_nb (by assumption)) (by (try (show List.set (_ :: _) _ _ = _)); dsimp only [List.set] <;> exact rfl) ?_ | with_reducible refine v_sto_ob (by with_unfolding_all first | exact rfl | assumption | exact fr_nb (by assumption)) (by (try (show List.set (_ :: _) _ _ = _)); dsimp only [List.set] <;> exact rfl) ?_))
local macro_rules | `(tactic| infer_instance) => `(tactic| (with_reducible refine g_tg1 ?_; first | with_reducible refine t_triple (by with_unfolding_all first | exact rfl | assumption | exact fr_nb (by assumption)) (by (try (show List.set (_ :: _) _ _ = _)); dsimp only [List.set] <;> exact rfl) (by with_unfolding_all first | exact rfl | assumption | exact fr_nb (by assumption)) (by (try (show List.set (_ :: _) _ _ = _)); dsimp only [List.set] <;> exact rfl) (by with_unfolding_all first | exact rfl | assumption | exact fr_nb (by assumption)) (by (try (show List.set (_ :: _) _ _ = _)); dsimp only [List.set] <;> exact rfl) ?_ | with_reducible refine t_pair (by with_unfolding_all first | exact rfl | assumption | exact fr_nb (by assumption)) (by (try (show List.set (_ :: _) _ _ = _)); dsimp only [List.set] <;> exact rfl) (by with_unfolding_all first | exact rfl | assumption | exact fr_nb (by assumption)) (by (try (show List.set (_ :: _) _ _ = _)); dsimp only [List.set] <;> exact rfl) ?_ | with_reducible refine t_name (by with_unfolding_all first | exact rfl | assumption | exact fr_nb (by assumption)) (by (try (show List.set (_ :: _) _ _ = _)); dsimp only [List.set] <;> exact rfl) ?_))
local macro_rules | `(tactic| infer_instance) => `(tactic| (with_reducible refine g_endq ?_; first | with_reducible refine en_rt ?_ | with_reducible refine en_bk ?_ | with_reducible refine en_ct ?_ | with_reducible refine en_nx ?_))
local macro_rules | `(tactic| infer_instance) => `(tactic| (with_reducible refine g_retq ?_; first | with_reducible refine rq_al (by with_unfolding_all rfl) (by first | (dsimp only [outl, outDV, List.getElem?_cons_succ, List.getElem?_cons_zero] <;> exact rfl) | exact rfl) ?_ | with_reducible refine rq_nl (by first | (dsimp only [outl, outDV, List.getElem?_cons_succ, List.getElem?_cons_zero] <;> exact rfl) | exact rfl) ?_ | with_reducible refine rq_ob (by first | (dsimp only [outl, outDV, List.getElem?_cons_succ, List.getElem?_cons_zero] <;> exact rfl) | exact rfl) ?_ | with_reducible refine rq_d (by first | (dsimp only [outl, outDV, List.getElem?_cons_succ, List.getElem?_cons_zero] <;> exact rfl) | exact rfl) ?_ | with_reducible refine rq_nx (by first | (dsimp only [outl, outDV, List.getElem?_cons_succ, List.getElem?_cons_zero] <;> exact rfl) | exact rfl) ?_))
local macro_rules | `(tactic| infer_instance) => `(tactic| (with_reducible refine g_opn ?_; first | with_reducible refine n_tupT ?_ | with_reducible refine n_tupL ?_ | with_reducible refine n_lstT ?_ | with_reducible refine n_lstL ?_ | with_reducible refine n_min2 ?_ | with_reducible refine n_max2 ?_ | with_reducible refine n_intB ?_ | with_reducible refine n_intI ?_ | with_reducible refine n_lenT ?_ | with_reducible refine n_lenL ?_))
local macro_rules | `(tactic| infer_instance) => `(tactic| (with_reducible refine g_argq ?_; first | with_reducible refine aq_brw (by with_unfolding_all rfl) ?_ | with_reducible refine aq_own (by with_unfolding_all rfl) ?_ | with_reducible refine aq_nl ?_ | with_reducible refine aq_ob ?_ | with_reducible refine aq_d ?_ | with_reducible refine aq_nil ?_))
local macro_rules | `(tactic| infer_instance) => `(tactic| (with_reducible refine g_lks ?_; first | with_reducible refine l_cons ?_ | with_reducible refine l_nil ?_))
local macro_rules | `(tactic| infer_instance) => `(tactic| (with_reducible refine g_wpO ?_; first | with_reducible refine v_oS ?_ | with_reducible refine w_oN ?_))
local macro_rules | `(tactic| infer_instance) => `(tactic| (with_reducible refine g_wpA ?_; first | with_reducible refine w_acons ?_ | with_reducible refine w_anil ?_))
local macro_rules | `(tactic| infer_instance) => `(tactic| (with_reducible refine g_wpDs ?_; first | with_reducible refine w_seqI ?_ | with_reducible refine w_range2 ?_ | with_reducible refine w_range1 ?_ | with_reducible refine w_dcons ?_ | with_reducible refine w_dnil ?_))
local macro_rules | `(tactic| infer_instance) => `(tactic| with_reducible refine if_no (by with_unfolding_all rfl) ?_)
local macro_rules | `(tactic| infer_instance) => `(tactic| with_reducible refine if_yes (by with_unfolding_all rfl) ?_)
local macro_rules | `(tactic| infer_instance) => `(tactic| with_reducible refine isB_ok ?_)
local macro_rules | `(tactic| infer_instance) => `(tactic| (with_reducible refine g_wpT ?_; first | with_reducible refine w_yes ?_ | with_reducible refine w_Not ?_ | with_reducible refine w_Or ?_ | with_reducible refine w_And ?_ | with_reducible refine v_B ?_))
local macro_rules | `(tactic| infer_instance) => `(tactic| with_reducible refine w_F ?_)
local macro_rules | `(tactic| infer_instance) => `(tactic| (with_reducible refine g_fz1 ?_; first | with_reducible refine v_fz_ownM (by with_unfolding_all rfl) (by (try (show List.set (_ :: _) _ _ = _)); dsimp only [List.set] <;> exact rfl) ?_ | with_reducible refine v_fz_ownL (by with_unfolding_all rfl) (by (try (show List.set (_ :: _) _ _ = _)); dsimp only [List.set] <;> exact rfl) ?_ | with_reducible refine fz_nlM' ?_ | with_reducible refine fz_nlL' ?_ | with_reducible refine fz_d' ?_))
local macro_rules | `(tactic| infer_instance) => `(tactic| (with_reducible refine g_op2 ?_; first | with_reducible refine o_eqS_same ?_ | with_reducible refine o_notinSS ?_ | with_reducible refine o_inSS ?_ | with_reducible refine o_neI ?_ | with_reducible refine o_eqI ?_ | with_reducible refine o_neS_same ?_ | with_reducible refine o_neS ?_ | with_reducible refine o_eqS ?_ | with_reducible refine o_mod (by with_unfolding_all decide) ?_ | with_reducible refine o_pow (by with_unfolding_all decide) ?_ | with_reducible refine o_ixT (by with_unfolding_all rfl) ?_ | with_reducible refine o_ixL (by with_unfolding_all rfl) ?_ | with_reducible refine o_ge ?_ | with_reducible refine o_gt ?_ | with_reducible refine o_le ?_ | with_reducible refine o_lt ?_ | with_reducible refine o_sub ?_ | with_reducible refine o_addI ?_))
local macro_rules | `(tactic| infer_instance) => `(tactic| (with_reducible refine g_lkq ?_; first | with_reducible refine v_lk_brwM (by with_unfolding_all rfl) ?_ | with_reducible refine v_lk_ownM (by with_unfolding_all rfl) ?_ | with_reducible refine v_lk_nlM ?_ | with_reducible refine lk_brwL (by with_unfolding_all rfl) ?_ | with_reducible refine lk_ownL (by with_unfolding_all rfl) ?_ | with_reducible refine lk_nlL ?_ | with_reducible refine lk_d ?_))
local macro_rules | `(tactic| infer_instance) => `(tactic| (with_reducible refine g_wpS ?_; first | with_reducible refine v_parN ?_ | with_reducible refine v_par3 ?_ | with_reducible refine v_par2 ?_ | with_reducible refine w_put ?_ | with_reducible refine w_asg ?_ | with_reducible refine w_set ?_ | with_reducible refine w_ifS ?_ | with_reducible refine w_retN ?_ | with_reducible refine w_ret ?_ | with_reducible refine w_drop ?_ | with_reducible refine w_ct ?_ | with_reducible refine w_bk ?_ | with_reducible refine w_nx ?_ | with_reducible refine w_seq ?_))
local macro_rules | `(tactic| infer_instance) => `(tactic| (with_reducible refine g_wpE ?_; first | with_reducible refine w_of ?_ | with_reducible refine v_dic0 ?_ | with_reducible refine v_mq ?_ | with_reducible refine v_chain ?_ | with_reducible refine v_fn (by with_unfolding_all rfl) (by with_unfolding_all rfl) (by dsimp only [Nat.reduceSub, List.replicate, List.cons_append, List.nil_append] <;> exact rfl) ?_ | with_reducible refine v_mtL (by with_unfolding_all rfl) ?_ | with_reducible refine v_callK ?_ | with_reducible refine v_call ?_ | with_reducible refine w_NotV ?_ | with_reducible refine w_OrV ?_ | with_reducible refine w_AndV ?_ | with_reducible refine w_sl ?_ | with_reducible refine w_varB (by with_unfolding_all rfl) ?_ | with_reducible refine w_varO (by with_unfolding_all rfl) ?_ | with_reducible refine w_var (by with_unfolding_all rfl) ?_ | with_reducible refine w_varOb (by with_unfolding_all rfl) ?_ | with_reducible refine w_fld ?_ | with_reducible refine w_meth ?_ | with_reducible refine w_make ?_ | with_reducible refine v_tup ?_ | with_reducible refine v_lst ?_ | with_reducible refine w_If ?_ | with_reducible refine w_c ?_ | with_reducible refine w_m2 ?_ | with_reducible refine w_m1 ?_ | with_reducible refine w_callN ?_))
local macro_rules | `(tactic| infer_instance) => `(tactic| with_reducible refine fq_ok (by with_unfolding_all rfl) ?_)
local macro_rules | `(tactic| infer_instance) => `(tactic| with_reducible refine mq_ok (by with_unfolding_all rfl) ?_)
local macro_rules | `(tactic| infer_instance) => `(tactic| with_reducible refine nd_ok (by with_unfolding_all rfl) ?_)
section
variable {k : Nat} {ns : List Str} {rs : List (Str × Str)} {rules : List Rl}
end

section
variable {k : Nat} {ns : List Str} {rs : List (Str × Str)} {rules : List Rl}
end
end PK

namespace PK
open PySem PySem.Spec PyProof.Rows L2 PL
variable [TheW]
local macro_rules | `(tactic| infer_instance) => `(tactic| dsimp only)
local macro_rules | `(tactic| infer_instance) => `(tactic| with_reducible refine le_ok (by with_unfolding_all rfl) ?_)
local macro_rules | `(tactic| infer_instance) => `(tactic| with_reducible refine pick_ok (by with_unfolding_all rfl) (by dsimp only [pick, List.filterMap, List.getElem?_cons_succ, List.getElem?_cons_zero] <;> exact rfl) ?_)
local macro_rules | `(tactic| infer_instance) => `(tactic| with_reducible refine free_ok (by with_unfolding_all rfl) ?_)
local macro_rules | `(tactic| infer_instance) => `(tactic| with_reducible refine ty_ok (by with_unfolding_all rfl) ?_)
local macro_rules | `(tactic| infer_instance) => `(tactic| (with_reducible refine g_chq ?_; first | with_reducible refine ch_lt ?_ | with_reducible refine ch_le ?_))
local macro_rules | `(tactic| infer_instance) => `(tactic| (with_reducible refine g_sl1 ?_; first | with_reducible refine s1_T ?_ | with_reducible refine s1_L ?_))
local macro_rules | `(tactic| infer_instance) => `(tactic| (with_reducible refine g_op1 ?_; first | with_reducible refine v_revT ?_ | with_reducible refine v_revL ?_ | with_reducible refine o_isi_t (by with_unfolding_all rfl) ?_ | with_reducible refine o_isi_f (by with_unfolding_all rfl) ?_))
local macro_rules | `(tactic| infer_instance) => `(tactic| (with_reducible refine g_sq1 ?_; first | with_reducible refine sq_S ?_ | with_reducible refine sq_T ?_ | with_reducible refine sq_L ?_))
local macro_rules | `(tactic| infer_instance) => `(tactic| with_reducible refine isI_ok ?_)
local macro_rules | `(tactic| infer_instance) => `(tactic| (with_reducible refine g_mtk ?_; first | with_reducible refine v_appB (by with_unfolding_all rfl) (by simp only [List.length_map, List.length_append, List.length_cons, List.length_nil, List.length_range, List.length_take, sizeLine_eq]; omega) (by (try (show List.set (_ :: _) _ _ = _)); dsimp only [List.set] <;> exact rfl) ?_ | with_reducible refine v_app (by with_unfolding_all rfl) (by simp only [List.length_map, List.length_append, List.length_cons, List.length_nil, List.length_range, List.length_take, sizeLine_eq]; omega) (by (try (show List.set (_ :: _) _ _ = _)); dsimp only [List.set] <;> exact rfl) ?_))
local macro_rules | `(tactic| infer_instance) => `(tactic| (with_reducible refine g_ret1 ?_; first | with_reducible refine ret_nl (by first | (dsimp only [pbs, setOc, List.getElem?_cons_succ, List.getElem?_cons_zero, List.set] <;> exact rfl) | exact rfl) ?_ | with_reducible refine ret_ob (by first | (dsimp only [pbs, setOc, List.getElem?_cons_succ, List.getElem?_cons_zero, List.set] <;> exact rfl) | exact rfl) ?_ | with_reducible refine ret_d (by first | (dsimp only [pbs, setOc, List.getElem?_cons_succ, List.getElem?_cons_zero, List.set] <;> exact rfl) | exact rfl) ?_))
local macro_rules | `(tactic| infer_instance) => `(tactic| with_reducible refine callq_ok (by with_unfolding_all rfl) ?_)
local macro_rules | `(tactic| infer_instance) => `(tactic| (with_reducible refine g_stoAll ?_; first | with_reducible refine sa_cons (by with_unfolding_all rfl) ?_ | with_reducible refine sa_nil ?_))
local macro_rules | `(tactic| infer_instance) => `(tactic| (with_reducible refine g_sto ?_; first | with_reducible refine v_sto_al (by with_unfolding_all rfl) (by (try (show List.set (_ :: _) _ _ = _)); dsimp only [List.set] <;> exact rfl) (by with_unfolding_all first | exact rfl | assumption | exact fr_nb (by assumption)) (by (try (show List.set (_ :: _) _ _ = _)); dsimp only [List.set] <;> exact rfl) ?_ | with_reducible refine v_sto_nl (by with_unfolding_all first | exact rfl | assumption | exact fr_nb (by assumption)) (by (try (show List.set (_ :: _) _ _ = _)); dsimp only [List.set] <;> exact rfl) ?_ | with_reducible refine v_sto_d (by with_unfolding_all first | exact rfl | assumption | exact fr_nb (by assumption)) (by (try (show List.set (_ :: _) _ _ = _)); dsimp only [List.set] <;> exact rfl) ?_ | with_reducible refine v_sto_ob (by with_unfolding_all first | exact rfl | assumption | exact fr_nb (by assumption)) (by (try (show List.set (_ :: _) _ _ = _)); dsimp only [List.set] <;> exact rfl) ?_))
local macro_rules | `(tactic| infer_instance) => `(tactic| (with_reducible refine g_tg1 ?_; first | with_reducible refine t_triple (by with_unfolding_all first | exact rfl | assumption | exact fr_nb (by assumption)) (by (try (show List.set (_ :: _) _ _ = _)); dsimp only [List.set] <;> exact rfl) (by with_unfolding_all first | exact rfl | assumption | exact fr_nb (by assumption)) (by (try (show List.set (_ :: _) _ _ = _)); dsimp only [List.set] <;> exact rfl) (by with_unfolding_all first | exact rfl | assumption | exact fr_nb (by assumption)) (by (try (show List.set (_ :: _) _ _ = _)); dsimp only [List.set] <;> exact rfl) ?_ | with_reducible refine t_pair (by with_unfolding_all first | exact rfl | assumption | exact fr_nb (by assumption)) (by (try (show List.set (_ :: _) _ _ = _)); dsimp only [List.set] <;> exact rfl) (by with_unfolding_all first | exact rfl | assumption | exact fr_nb (by assumption)) (by (try (show List.set (_ :: _) _ _ = _)); dsimp only [List.set] <;> exact rfl) ?_ | with_reducible refine t_name (by with_unfolding_all first | exact rfl | assumption | exact fr_nb (by assumption)) (by (try (show List.set (_ :: _) _ _ = _)); dsimp only [List.set] <;> exact rfl) ?_))
local macro_rules | `(tactic| infer_instance) => `(tactic| (with_reducible refine g_endq ?_; first | with_reducible refine en_rt ?_ | with_reducible refine en_bk ?_ | with_reducible refine en_ct ?_ | with_reducible refine en_nx ?_))
local macro_rules | `(tactic| infer_instance) => `(tactic| (with_reducible refine g_retq ?_; first | with_reducible refine rq_al (by with_unfolding_all rfl) (by first | (dsimp only [outl, outDV, List.getElem?_cons_succ, List.getElem?_cons_zero] <;> exact rfl) | exact rfl) ?_ | with_reducible refine rq_nl (by first | (dsimp only [outl, outDV, List.getElem?_cons_succ, List.getElem?_cons_zero] <;> exact rfl) | exact rfl) ?_ | with_reducible refine rq_ob (by first | (dsimp only [outl, outDV, List.getElem?_cons_succ, List.getElem?_cons_zero] <;> exact rfl) | exact rfl) ?_ | with_reducible refine rq_d (by first | (dsimp only [outl, outDV, List.getElem?_cons_succ, List.getElem?_cons_zero] <;> exact rfl) | exact rfl) ?_ | with_reducible refine rq_nx (by first | (dsimp only [outl, outDV, List.getElem?_cons_succ, List.getElem?_cons_zero] <;> exact rfl) | exact rfl) ?_))
local macro_rules | `(tactic| infer_instance) => `(tactic| (with_reducible refine g_opn ?_; first | with_reducible refine n_tupT ?_ | with_reducible refine n_tupL ?_ | with_reducible refine n_lstT ?_ | with_reducible refine n_lstL ?_ | with_reducible refine n_min2 ?_ | with_reducible refine n_max2 ?_ | with_reducible refine n_intB ?_ | with_reducible refine n_intI ?_ | with_reducible refine n_lenT ?_ | with_reducible refine n_lenL ?_))
local macro_rules | `(tactic| infer_instance) => `(tactic| (with_reducible refine g_argq ?_; first | with_reducible refine aq_brw (by with_unfolding_all rfl) ?_ | with_reducible refine aq_own (by with_unfolding_all rfl) ?_ | with_reducible refine aq_nl ?_ | with_reducible refine aq_ob ?_ | with_reducible refine aq_d ?_ | with_reducible refine aq_nil ?_))
local macro_rules | `(tactic| infer_instance) => `(tactic| (with_reducible refine g_lks ?_; first | with_reducible refine l_cons ?_ | with_reducible refine l_nil ?_))
local macro_rules | `(tactic| infer_instance) => `(tactic| (with_reducible refine g_wpO ?_; first | with_reducible refine v_oS ?_ | with_reducible refine w_oN ?_))
local macro_rules | `(tactic| infer_instance) => `(tactic| (with_reducible refine g_wpA ?_; first | with_reducible refine w_acons ?_ | with_reducible refine w_anil ?_))
local macro_rules | `(tactic| infer_instance) => `(tactic| (with_reducible refine g_wpDs ?_; first | with_reducible refine w_seqI ?_ | with_reducible refine w_range2 ?_ | with_reducible refine w_range1 ?_ | with_reducible refine w_dcons ?_ | with_reducible refine w_dnil ?_))
local macro_rules | `(tactic| infer_instance) => `(tactic| with_reducible refine if_no (by with_unfolding_all rfl) ?_)
local macro_rules | `(tactic| infer_instance) => `(tactic| with_reducible refine if_yes (by with_unfolding_all rfl) ?_)
local macro_rules | `(tactic| infer_instance) => `(tactic| with_reducible refine isB_ok ?_)
local macro_rules | `(tactic| infer_instance) => `(tactic| (with_reducible refine g_wpT ?_; first | with_reducible refine w_yes ?_ | with_reducible refine w_Not ?_ | with_reducible refine w_Or ?_ | with_reducible refine w_And ?_ | with_reducible refine v_B ?_))
local macro_rules | `(tactic| infer_instance) => `(tactic| with_reducible refine w_F ?_)
local macro_rules | `(tactic| infer_instance) => `(tactic| (with_reducible refine g_fz1 ?_; first | with_reducible refine v_fz_ownM (by with_unfolding_all rfl) (by (try (show List.set (_ :: _) _ _ = _)); dsimp only [List.set] <;> exact rfl) ?_ | with_reducible refine v_fz_ownL (by with_unfolding_all rfl) (by (try (show List.set (_ :: _) _ _ = _)); dsimp only [List.set] <;> exact rfl) ?_ | with_reducible refine fz_nlM' ?_ | with_reducible refine fz_nlL' ?_ | with_reducible refine fz_d' ?_))
local macro_rules | `(tactic| infer_instance) => `(tactic| (with_reducible refine g_op2 ?_; first | with_reducible refine o_eqS_same ?_ | with_reducible refine o_notinSS ?_ | with_reducible refine o_inSS ?_ | with_reducible refine o_neI ?_ | with_reducible refine o_eqI ?_ | with_reducible refine o_neS_same ?_ | with_reducible refine o_neS ?_ | with_reducible refine o_eqS ?_ | with_reducible refine o_mod (by with_unfolding_all decide) ?_ | with_reducible refine o_pow (by with_unfolding_all decide) ?_ | with_reducible refine o_ixT (by with_unfolding_all rfl) ?_ | with_reducible refine o_ixL (by with_unfolding_all rfl) ?_ | with_reducible refine o_ge ?_ | with_reducible refine o_gt ?_ | with_reducible refine o_le ?_ | with_reducible refine o_lt ?_ | with_reducible refine o_sub ?_ | with_reducible refine o_addI ?_))
local macro_rules | `(tactic| infer_instance) => `(tactic| (with_reducible refine g_lkq ?_; first | with_reducible refine v_lk_brwM (by with_unfolding_all rfl) ?_ | with_reducible refine v_lk_ownM (by with_unfolding_all rfl) ?_ | with_reducible refine v_lk_nlM ?_ | with_reducible refine lk_brwL (by with_unfolding_all rfl) ?_ | with_reducible refine lk_ownL (by with_unfolding_all rfl) ?_ | with_reducible refine lk_nlL ?_ | with_reducible refine lk_d ?_))
local macro_rules | `(tactic| infer_instance) => `(tactic| (with_reducible refine g_wpS ?_; first | with_reducible refine v_parN ?_ | with_reducible refine v_par3 ?_ | with_reducible refine v_par2 ?_ | with_reducible refine w_put ?_ | with_reducible refine w_asg ?_ | with_reducible refine w_set ?_ | with_reducible refine w_ifS ?_ | with_reducible refine w_retN ?_ | with_reducible refine w_ret ?_ | with_reducible refine w_drop ?_ | with_reducible refine w_ct ?_ | with_reducible refine w_bk ?_ | with_reducible refine w_nx ?_ | with_reducible refine w_seq ?_))
local macro_rules | `(tactic| infer_instance) => `(tactic| (with_reducible refine g_wpE ?_; first | with_reducible refine w_of ?_ | with_reducible refine v_dic0 ?_ | with_reducible refine v_mq ?_ | with_reducible refine v_chain ?_ | with_reducible refine v_fn (by with_unfolding_all rfl) (by with_unfolding_all rfl) (by dsimp only [Nat.reduceSub, List.replicate, List.cons_append, List.nil_append] <;> exact rfl) ?_ | with_reducible refine v_mtL (by with_unfolding_all rfl) ?_ | with_reducible refine v_callK ?_ | with_reducible refine v_call ?_ | with_reducible refine w_NotV ?_ | with_reducible refine w_OrV ?_ | with_reducible refine w_AndV ?_ | with_reducible refine w_sl ?_ | with_reducible refine w_varB (by with_unfolding_all rfl) ?_ | with_reducible refine w_varO (by with_unfolding_all rfl) ?_ | with_reducible refine w_var (by with_unfolding_all rfl) ?_ | with_reducible refine w_varOb (by with_unfolding_all rfl) ?_ | with_reducible refine w_fld ?_ | with_reducible refine w_meth ?_ | with_reducible refine w_make ?_ | with_reducible refine v_tup ?_ | with_reducible refine v_lst ?_ | with_reducible refine w_If ?_ | with_reducible refine w_c ?_ | with_reducible refine w_m2 ?_ | with_reducible refine w_m1 ?_ | with_reducible refine w_callN ?_))
local macro_rules | `(tactic| infer_instance) => `(tactic| with_reducible refine fq_ok (by with_unfolding_all rfl) ?_)
local macro_rules | `(tactic| infer_instance) => `(tactic| with_reducible refine mq_ok (by with_unfolding_all rfl) ?_)
local macro_rules | `(tactic| infer_instance) => `(tactic| with_reducible refine nd_ok (by with_unfolding_all rfl) ?_)
local macro_rules | `(tactic| infer_instance) => `(tactic| (with_reducible refine g_xret1 ?_; first | with_reducible refine xc_d (by first | (dsimp only [pbs, setOc, List.getElem?_cons_succ, List.getElem?_cons_zero, List.set] <;> exact rfl) | exact rfl) ?_ | with_reducible refine xc_nl (by first | (dsimp only [pbs, setOc, List.getElem?_cons_succ, List.getElem?_cons_zero, List.set] <;> exact rfl) | exact rfl) ?_ | with_reducible refine xc_ob (by first | (dsimp only [pbs, setOc, List.getElem?_cons_succ, List.getElem?_cons_zero, List.set] <;> exact rfl) | exact rfl) ?_ | with_reducible refine xc_ex (by first | (dsimp only [pbs, setOc, List.getElem?_cons_succ, List.getElem?_cons_zero, List.set] <;> exact rfl) | exact rfl) ?_))
local macro_rules | `(tactic| infer_instance) => `(tactic| (with_reducible refine g_xretq ?_; first | with_reducible refine xq_ex (by first | (dsimp only [outl, outDV, List.getElem?_cons_succ, List.getElem?_cons_zero] <;> exact rfl) | exact rfl) ?_ | with_reducible refine xq_o ?_))
local macro_rules | `(tactic| infer_instance) => `(tactic| (with_reducible refine g_xsq ?_; first | with_reducible refine xs_nx ?_ | with_reducible refine xs_rt ?_ | with_reducible refine xs_ex ?_))
local macro_rules | `(tactic| infer_instance) => `(tactic| (with_reducible refine g_xdq ?_; first | with_reducible refine xd_ok ?_ | with_reducible refine xd_ex ?_))
local macro_rules | `(tactic| infer_instance) => `(tactic| (with_reducible refine g_xrq ?_; first | with_reducible refine xr_ok ?_ | with_reducible refine xr_ex ?_))
local macro_rules | `(tactic| infer_instance) => `(tactic| (with_reducible refine g_xsetq ?_; first | with_reducible refine xst_ok ?_ | with_reducible refine xst_ex ?_))
local macro_rules | `(tactic| infer_instance) => `(tactic| (with_reducible refine g_xtupq ?_; first | with_reducible refine xt_ok ?_ | with_reducible refine xt_ex ?_))
local macro_rules | `(tactic| infer_instance) => `(tactic| (with_reducible refine g_xopq ?_; first | with_reducible refine xo_ok ?_ | with_reducible refine xo_ex ?_))
local macro_rules | `(tactic| infer_instance) => `(tactic| (with_reducible refine g_tryq ?_; first | with_reducible refine tr_o ?_ | with_reducible refine tr_ex (by with_unfolding_all rfl) (by with_unfolding_all rfl) (by with_unfolding_all rfl) (by (try (show List.set (_ :: _) _ _ = _)); dsimp only [List.set] <;> exact rfl) ?_))
local macro_rules | `(tactic| infer_instance) => `(tactic| (with_reducible refine g_wpSX ?_; first | with_reducible refine wx_seq ?_ | with_reducible refine wx_if ?_ | with_reducible refine wx_raise ?_ | with_reducible refine wx_drop ?_ | with_reducible refine wx_ret ?_ | with_reducible refine wx_set ?_ | with_reducible refine wx_lift ?_))
local macro_rules | `(tactic| infer_instance) => `(tactic| (with_reducible refine g_wpEX ?_; first | with_reducible refine wx_fn (by with_unfolding_all rfl) (by with_unfolding_all rfl) (by dsimp only [Nat.reduceSub, List.replicate, List.cons_append, List.nil_append] <;> exact rfl) ?_ | with_reducible refine wx_callK ?_ | with_reducible refine wx_call ?_ | with_reducible refine wx_tup1 ?_ | with_reducible refine wx_ifE ?_ | with_reducible refine wx_op2 ?_ | with_reducible refine wx_liftE ?_))
local macro_rules | `(tactic| infer_instance) => `(tactic| with_reducible refine xcallq_ok (by with_unfolding_all rfl) ?_)
local macro_rules | `(tactic| infer_instance) => `(tactic| with_reducible refine w_isE (by with_unfolding_all rfl) ?_)
local macro_rules | `(tactic| infer_instance) => `(tactic| with_reducible refine wx_try ?_)
local macro_rules | `(tactic| infer_instance) => `(tactic| (with_reducible refine g_tend ?_; with_reducible refine te_ok (by with_unfolding_all rfl) (by with_unfolding_all rfl) (by (try (show List.set (_ :: _) _ _ = _)); dsimp only [List.set] <;> exact rfl) ?_))
/-! ### V58: the first order by numbers that has some arrows -/
/-- the places that arrows bring ahead of a place -/
def prd (L : List (Str × Str)) (z : Str) : List Str := (L.filter fun p => p.2 == z).map (·.1)
/-- a place that is not laid, and all ahead of it are -/
def frB (L : List (Str × Str)) (got : List Str) (z : Str) : Bool := !decide (z ∈ got) && (prd L z).all fun x => decide (x ∈ got)
def goF (L : List (Str × Str)) (ns : List Str) : Nat → List Str → Option (List Str)
  | 0, got => some got
  | k + 1, got => match ns.filter (frB L got) with
    | [] => none
    | z :: _ => goF L ns k (got ++ [z])
def fstO (ns : List Str) (L : List (Str × Str)) : Option (List Str) := goF L ns ns.length []
def orD : Option (List Str) → D
  | none => .none
  | some o => ordD o
theorem goF_none {L : List (Str × Str)} {ns got : List Str} {k : Nat} (h : ns.filter (frB L got) = []) : goF L ns (k + 1) got = none := by
  show (match ns.filter (frB L got) with | [] => none | z :: _ => goF L ns k (got ++ [z])) = _
  rw [h]
theorem goF_some {L : List (Str × Str)} {ns got : List Str} {k : Nat} {z : Str} {zs : List Str} (h : ns.filter (frB L got) = z :: zs) : goF L ns (k + 1) got = goF L ns k (got ++ [z]) := by
  show (match ns.filter (frB L got) with | [] => none | z :: _ => goF L ns k (got ++ [z])) = _
  rw [h]
theorem prd_empty {L : List (Str × Str)} {got : List Str} {z : Str} : (L.filter fun p => p.2 == z && !decide (p.1 ∈ got)).isEmpty = (prd L z).all fun x => decide (x ∈ got) := by
  unfold prd
  induction L with
  | nil => rfl
  | cons p L ih =>
    rw [List.filter_cons, List.filter_cons]
    cases h : p.2 == z with
    | false => simpa using ih
    | true =>
      by_cases h2 : p.1 ∈ got
      · simpa [h2] using ih
      · simp [h2]
theorem prd_mem {L : List (Str × Str)} {z x : Str} : x ∈ prd L z ↔ (x, z) ∈ L := by
  unfold prd
  rw [List.mem_map]
  constructor
  · rintro ⟨⟨a, b⟩, h, rfl⟩
    rw [List.mem_filter] at h
    have : b = z := by simpa using h.2
    rw [← this]
    exact h.1
  · intro h
    exact ⟨(x, z), List.mem_filter.mpr ⟨h, by simp⟩, rfl⟩
theorem left_step {ns got : List Str} {z : Str} (nd : ns.Nodup) : (ns.filter fun x => !decide (x ∈ got)).eraseIdx ((ns.filter fun x => !decide (x ∈ got)).idxOf z) = ns.filter fun x => !decide (x ∈ got ++ [z]) := by
  rw [← List.erase_eq_eraseIdx_of_idxOf rfl, List.Nodup.erase_eq_filter (nd.sublist List.filter_sublist), List.filter_filter]
  refine List.filter_congr fun x _ => ?_
  by_cases h1 : x ∈ got <;> by_cases h2 : x = z <;> simp [h1, h2]
theorem frB_left {L : List (Str × Str)} {ns got : List Str} : (ns.filter fun x => !decide (x ∈ got)).filter (fun z => (prd L z).all fun x => decide (x ∈ got)) = ns.filter (frB L got) := by
  rw [List.filter_filter]
  refine List.filter_congr fun x _ => ?_
  unfold frB
  rw [Bool.and_comm]
section
variable {ns : List Str} {rs L : List (Str × Str)}
theorem strOk_of {zs : List Str} (h : ∀ z ∈ zs, nameS z = true) : ∀ z ∈ zs, PyData.strOk z = true := fun z hz => nameS_ok (h z hz)
theorem sh_strs {zs : List Str} (h : ∀ z ∈ zs, nameS z = true) : SeqAt.shaped (.list (zs.map PyData.str)) = true := shaped_list (flat_str (strOk_of h)) (by decide)
theorem map_isEmpty {α β : Type} {f : α → β} {xs : List α} : (xs.map f).isEmpty = xs.isEmpty := by cases xs <;> rfl
theorem e_law_first (W : WebOk (fun z => nameS z = true) ns rs) (A : NmOk L) (hL : L.length ≤ 100) {Q : RV → Ev → Prop} (kq : Q (.d (orD (fstO ns L))) [.v (webD ns rs), .v (arsD L)]) : wp fm__law_first [.v (webD ns rs), .v (arsD L)] Q := by
  have hl8 := W.l2
  unfold fm__law_first ms__law_first
  repeat infer_instance
  refine w_for ?_
  repeat infer_instance
  refine v_loopF (fun j ρ => ∃ (got : List Str) (x3 x4 x5 : DV), goF L ns (ns.length - j) got = fstO ns L ∧ got.length = j ∧ (∀ z ∈ got, z ∈ ns) ∧ noBrw (some x3) = true ∧ noBrw (some x4) = true ∧ noBrw (some x5) = true ∧ ρ = [.v (webD ns rs), .v (arsD L), .own (.L (got.map PyData.str)), x3, x4, x5, .un, .un]) ⟨[], .un, .un, .un, rfl, rfl, nofun, rfl, rfl, rfl, rfl⟩ ?_ ?_
  · rintro j w ρ hj ⟨got, x3, x4, x5, hg, gl, gm, h3, h4, h5, rfl⟩
    have hjl := (List.getElem?_eq_some_iff.mp hj).1
    have gn : ∀ z ∈ got, nameS z = true := fun z hz => W.nm z (gm z hz)
    repeat infer_instance
    refine w_for ?_
    repeat infer_instance
    refine v_loopF (fun i ρ => ∃ (x5 : DV), noBrw (some x5) = true ∧ ρ = [.v (webD ns rs), .v (arsD L), .own (.L (got.map PyData.str)), .v (.str w), .own (.L (((ns.take i).filter (frB L got)).map PyData.str)), x5, .un, .un]) ⟨x5, h5, rfl⟩ ?_ ?_
    · rintro i z ρ hi ⟨x5, h5, rfl⟩
      have hz := List.mem_of_getElem? hi
      have sz := str_shaped (nameS_ok (W.nm z hz))
      have tk : ((ns.take (i + 1)).filter (frB L got)) = (ns.take i).filter (frB L got) ++ (if frB L got z = true then [z] else []) := by
        rw [List.take_succ, hi]
        cases e : frB L got z <;> simp [e]
      have tl : ((ns.take i).filter (frB L got)).length ≤ 8 := Nat.le_trans (List.length_filter_le _ _) (by rw [List.length_take]; omega)
      repeat infer_instance
      refine o_notinL sz (sh_strs gn) ?_
      rw [any_strs]
      repeat infer_instance
      cases hzg : decide (z ∈ got) with
      | true =>
        refine if_f ?_
        repeat infer_instance
        refine ⟨.v (.str z), rfl, ?_⟩
        rw [tk, if_neg (by unfold frB; rw [hzg]; exact Bool.false_ne_true), List.append_nil]
      | false =>
        refine if_t ?_
        repeat infer_instance
        refine v_lc ?_
        repeat infer_instance
        refine v_cfiltF (by (try (show wipeE (_ :: _) _ = _)); dsimp only [wipeE, List.set] <;> exact rfl) (fun p => p.2 == z && !decide (p.1 ∈ got)) (fun p => .str p.1) (by omega) (fun j p hj => ?_) ?_
        · obtain ⟨x, y⟩ := p
          have hp := A _ (List.mem_of_getElem? hj)
          show tg1 _ (.tuple [.str x, .str y]) _ _
          repeat infer_instance
          cases h : (y == z) with
          | false =>
            refine if_f ?_
            exact ⟨rfl, fun h2 => absurd h2 Bool.false_ne_true, fun _ => by (try (show wipeE (_ :: _) _ = _)); dsimp only [wipeE, List.set] <;> exact rfl⟩
          | true =>
            refine if_t ?_
            repeat infer_instance
            refine o_notinL (str_shaped (nameS_ok hp.1)) (sh_strs gn) ?_
            rw [any_strs]
            repeat infer_instance
            refine ⟨rfl, fun _ => ?_, fun _ => by (try (show wipeE (_ :: _) _ = _)); dsimp only [wipeE, List.set] <;> exact rfl⟩
            repeat infer_instance
            exact ⟨by (try (show wipeE (_ :: _) _ = _)); dsimp only [wipeE, List.set] <;> exact rfl, rfl⟩
        repeat infer_instance
        have sm : ∀ p ∈ L.filter (fun p => p.2 == z && !decide (p.1 ∈ got)), nameS p.1 = true := fun p hp => (A p (List.mem_filter.mp hp).1).1
        rw [show ((L.filter fun p => p.2 == z && !decide (p.1 ∈ got)).map fun p => PyData.str p.1) = ((L.filter fun p => p.2 == z && !decide (p.1 ∈ got)).map (·.1)).map PyData.str by rw [List.map_map]; rfl]
        refine o_eqNil (sh_strs fun x hx => ?_) ?_
        · obtain ⟨p, hp, rfl⟩ := List.mem_map.mp hx
          exact sm p hp
        rw [map_isEmpty, map_isEmpty, prd_empty]
        repeat infer_instance
        have fe : frB L got z = (prd L z).all fun x => decide (x ∈ got) := by unfold frB; rw [hzg]; rfl
        cases ha : (prd L z).all fun x => decide (x ∈ got) with
        | false =>
          refine if_f ?_
          repeat infer_instance
          refine ⟨.v (.str z), rfl, ?_⟩
          rw [tk, if_neg (by rw [fe, ha]; decide), List.append_nil]
        | true =>
          refine if_t ?_
          repeat infer_instance
          refine ⟨.v (.str z), rfl, ?_⟩
          rw [tk, if_pos (by rw [fe, ha]), List.map_append]
          rfl
    · rintro ρ ⟨x5, h5, rfl⟩
      rw [List.take_length]
      have fs : ∀ z ∈ ns.filter (frB L got), nameS z = true := fun z hz => W.nm z (List.mem_filter.mp hz).1
      repeat infer_instance
      refine o_eqNil (sh_strs fs) ?_
      rw [map_isEmpty]
      obtain ⟨m, hm⟩ : ∃ m, ns.length - j = m + 1 := ⟨ns.length - j - 1, by omega⟩
      have hm' : ns.length - (j + 1) = m := by omega
      rw [hm] at hg
      repeat infer_instance
      cases hf : ns.filter (frB L got) with
      | nil =>
        refine if_t ?_
        repeat infer_instance
        rw [goF_none hf] at hg
        rw [← hg] at kq
        exact kq
      | cons z zs =>
        refine if_f ?_
        repeat infer_instance
        refine o_ixL (d := .str z) (at_nat (k := 0) rfl) ?_
        repeat infer_instance
        rw [goF_some hf] at hg
        have hz : z ∈ ns := (List.mem_filter.mp (hf ▸ List.mem_cons_self : z ∈ ns.filter (frB L got))).1
        refine ⟨got ++ [z], .v (.str w), .own (.L ((z :: zs).map PyData.str)), x5, by rw [hm']; exact hg, by rw [List.length_append, gl]; rfl, fun x hx => ?_, ?_, ?_, ?_, ?_⟩
        · rcases List.mem_append.mp hx with h | h
          · exact gm x h
          · rw [List.mem_singleton.mp h]; exact hz
        rotate_right
        · rw [List.map_append]; rfl
        all_goals first | rfl | assumption
  · rintro ρ ⟨got, x3, x4, x5, hg, gl, gm, h3, h4, h5, rfl⟩
    rw [Nat.sub_self] at hg
    rw [← hg] at kq
    repeat infer_instance
    exact kq
end

/-! ### V59: the kit's first order -/
theorem v_rem {ρ ρ2 : Ev} {i : Nat} {ss : List Str} {z : Str} {K : D → Ev → Prop} (h : ρ[i]? = some (.own (.L (ss.map PyData.str)))) (hz : z ∈ ss) (e : ρ.set i (.own (.L ((ss.eraseIdx (ss.idxOf z)).map PyData.str))) = ρ2) (q : K .none ρ2) : mtk i gRem [.str z] ρ K := by
  refine ⟨.L (ss.map PyData.str), .L ((ss.eraseIdx (ss.idxOf z)).map PyData.str), .none, ocOf_own h, ?_, by rw [setOc_own h, e]; exact q⟩
  show (strsOf (ss.map PyData.str)).bind (fun s => if z ∈ s then some (OC.L ((ss.map PyData.str).eraseIdx (s.idxOf z)), PyData.none) else none) = _
  rw [PL.strs_map, Option.bind_some, if_pos hz]
  have : (ss.map PyData.str).eraseIdx (ss.idxOf z) = (ss.eraseIdx (ss.idxOf z)).map PyData.str := by
    refine List.ext_getElem? fun j => ?_
    simp only [List.getElem?_map, List.getElem?_eraseIdx]
    split <;> rfl
  rw [this]
def ahM (ns : List Str) (L : List (Str × Str)) : List (D × D) := sM (fun z : Str => z) (fun z => .tuple ((prd L z).map PyData.str)) ns
theorem ahM_at {ns : List Str} {L : List (Str × Str)} {z : Str} (nd : ns.Nodup) (h : z ∈ ns) : dGet (ahM ns L) (.str z) = some (some (.tuple ((prd L z).map PyData.str))) :=
  sM_at (kf := fun z : Str => z) (vf := fun z => .tuple ((prd L z).map PyData.str)) (by rw [List.map_id']; exact nd) h
section
variable {ns : List Str} {rs L : List (Str × Str)}
theorem e_ahead_of (W : WebOk (fun z => nameS z = true) ns rs) (A : NmOk L) (hL : L.length ≤ 100) {Q : RV → Ev → Prop} (kq : Q (.nl (.M (ahM ns L))) [.v (webD ns rs), .v (arsD L)]) : wp fm_ahead_of [.v (webD ns rs), .v (arsD L)] Q := by
  have hl8 := W.l2
  unfold fm_ahead_of ms_ahead_of
  repeat infer_instance
  refine v_dc ?_
  repeat infer_instance
  refine v_dcS (kf := fun z : Str => z) (vf := fun z => .tuple ((prd L z).map PyData.str)) (by (try (show wipeE (_ :: _) _ = _)); dsimp only [wipeE, List.set] <;> exact rfl) (by omega) (by rw [List.map_id']; exact W.nd) (fun z hz => ?_) ?_
  · repeat infer_instance
    refine ⟨rfl, ?_⟩
    repeat infer_instance
    refine ⟨rfl, ?_⟩
    repeat infer_instance
    refine v_lc ?_
    repeat infer_instance
    refine v_cfiltF (by (try (show wipeE (_ :: _) _ = _)); dsimp only [wipeE, List.set] <;> exact rfl) (fun p => p.2 == z) (fun p => .str p.1) (by omega) (fun j p hj => ?_) ?_
    · obtain ⟨x, y⟩ := p
      show tg1 _ (.tuple [.str x, .str y]) _ _
      repeat infer_instance
      refine ⟨rfl, fun _ => ?_, fun _ => by (try (show wipeE (_ :: _) _ = _)); dsimp only [wipeE, List.set] <;> exact rfl⟩
      repeat infer_instance
      exact ⟨by (try (show wipeE (_ :: _) _ = _)); dsimp only [wipeE, List.set] <;> exact rfl, rfl⟩
    repeat infer_instance
    refine ⟨by (try (show wipeE (_ :: _) _ = _)); dsimp only [wipeE, List.set] <;> exact rfl, ?_⟩
    unfold prd
    rw [List.map_map]
    rfl
  repeat infer_instance
  exact kq
theorem prd_nm (A : NmOk L) {z : Str} : ∀ x ∈ prd L z, nameS x = true := fun x hx => (A _ (prd_mem.mp hx)).1
theorem e_first_order (W : WebOk (fun z => nameS z = true) ns rs) (A : NmOk L) (hL : L.length ≤ 100) {Q : RV → Ev → Prop} (kq : Q (.d (orD (fstO ns L))) [.v (webD ns rs), .v (arsD L)]) : wp fm_first_order [.v (webD ns rs), .v (arsD L)] Q := by
  have hl8 := W.l2
  unfold fm_first_order ms_first_order
  repeat infer_instance
  refine e_ahead_of W A hL ?_
  repeat infer_instance
  refine v_while (fun n ρ => ∃ (got : List Str) (x5 : DV), goF L ns n got = fstO ns L ∧ (ns.filter fun x => !decide (x ∈ got)).length = n ∧ (∀ z ∈ got, z ∈ ns) ∧ got.length ≤ 8 - n ∧ n ≤ 8 ∧ noBrw (some x5) = true ∧ ρ = [.v (webD ns rs), .v (arsD L), .own (.M (ahM ns L)), .own (.L ((ns.filter fun x => !decide (x ∈ got)).map PyData.str)), .own (.L (got.map PyData.str)), x5, .un, .un]) ?_ 1000 ns.length _ (by omega) ?_
  · rintro n ρ ⟨got, x5, hg, hn, gm, gl, n8, h5, rfl⟩
    have gn : ∀ z ∈ got, nameS z = true := fun z hz => W.nm z (gm z hz)
    have ln : ∀ z ∈ ns.filter (fun x => !decide (x ∈ got)), nameS z = true := fun z hz => W.nm z (List.mem_filter.mp hz).1
    generalize hle : (ns.filter fun x => !decide (x ∈ got)) = left at hn ln ⊢
    repeat infer_instance
    refine o_neNil (sh_strs ln) ?_
    rw [map_isEmpty]
    repeat infer_instance
    cases left with
    | nil =>
      refine if_f ?_
      cases hn
      have hg : some got = fstO ns L := hg
      rw [← hg] at kq
      repeat infer_instance
      exact kq
    | cons w ws =>
      refine if_t ?_
      generalize hws : w :: ws = left at *
      have lp : 0 < left.length := by rw [← hws]; exact Nat.succ_pos _
      obtain ⟨m, rfl⟩ : ∃ m, n = m + 1 := ⟨n - 1, by omega⟩
      repeat infer_instance
      have es := eqDs_strs left
      refine w_lcO rfl rfl (by decide) es ?_
      refine v_cfiltF (by (try (show wipeE (_ :: _) _ = _)); dsimp only [wipeE, List.set] <;> exact rfl) (fun z => (prd L z).all fun x => decide (x ∈ got)) (fun z => .str z) (by omega) (fun j z hj => tg_own rfl es ?_) (⟨rfl, ?_⟩)
      · have hz : z ∈ ns := (List.mem_filter.mp (hle ▸ List.mem_of_getElem? hj : z ∈ ns.filter (fun x => !decide (x ∈ got)))).1
        have pl : (prd L z).length ≤ 100 := by
          unfold prd
          rw [List.length_map]
          exact Nat.le_trans (List.length_filter_le _ _) hL
        repeat infer_instance
        refine v_lc ?_
        repeat infer_instance
        refine o_ixM (ahM_at W.nd hz) ?_
        repeat infer_instance
        refine v_cmapF (by (try (show wipeE (_ :: _) _ = _)); dsimp only [wipeE, List.set] <;> exact rfl) (fun x => .bool (decide (x ∈ got))) (by omega) (fun j x hj => ?_) ?_
        · repeat infer_instance
          refine ⟨rfl, ?_⟩
          repeat infer_instance
          refine o_inL (str_shaped (nameS_ok (prd_nm A x (List.mem_of_getElem? hj)))) (sh_strs gn) ?_
          rw [any_strs]
          repeat infer_instance
          exact ⟨by (try (show wipeE (_ :: _) _ = _)); dsimp only [wipeE, List.set] <;> exact rfl, rfl⟩
        repeat infer_instance
        rw [show ((prd L z).map fun x => PyData.bool (decide (x ∈ got))) = ((prd L z).map fun x => decide (x ∈ got)).map PyData.bool by rw [List.map_map]; rfl]
        refine n_all ?_
        repeat infer_instance
        refine ⟨by rw [List.all_map]; rfl, fun _ => ?_, fun _ => by (try (show wipeE (_ :: _) _ = _)); dsimp only [wipeE, List.set] <;> exact rfl⟩
        repeat infer_instance
        exact ⟨by (try (show wipeE (_ :: _) _ = _)); dsimp only [wipeE, List.set] <;> exact rfl, rfl⟩
      rw [← hle, frB_left]
      have fs : ∀ z ∈ ns.filter (frB L got), nameS z = true := fun z hz => W.nm z (List.mem_filter.mp hz).1
      repeat infer_instance
      refine o_eqNil (sh_strs fs) ?_
      rw [map_isEmpty]
      repeat infer_instance
      cases hf : ns.filter (frB L got) with
      | nil =>
        refine if_t ?_
        repeat infer_instance
        rw [goF_none hf] at hg
        rw [← hg] at kq
        exact kq
      | cons z zs =>
        refine if_f ?_
        repeat infer_instance
        refine o_ixL (d := .str z) (at_nat (k := 0) rfl) ?_
        repeat infer_instance
        refine o_ixL (d := .str z) (at_nat (k := 0) rfl) ?_
        repeat infer_instance
        rw [goF_some hf] at hg
        have hzf : z ∈ ns.filter (frB L got) := hf ▸ List.mem_cons_self
        have hz : z ∈ ns := (List.mem_filter.mp hzf).1
        have hzg : z ∉ got := by
          have := (List.mem_filter.mp hzf).2
          unfold frB at this
          rw [Bool.and_eq_true] at this
          simpa using this.1
        have hzl : z ∈ ns.filter (fun x => !decide (x ∈ got)) := List.mem_filter.mpr ⟨hz, by simpa using hzg⟩
        have hlen := List.length_eraseIdx_of_lt (List.idxOf_lt_length_of_mem hzl)
        refine v_rem rfl hzl (by (try (show List.set (_ :: _) _ _ = _)); dsimp only [List.set] <;> exact rfl) ?_
        rw [left_step W.nd]
        rw [left_step W.nd, hle, hn] at hlen
        repeat infer_instance
        refine ⟨m, by omega, got ++ [z], .own (.L ((z :: zs).map PyData.str)), hg, hlen, fun x hx => ?_, by rw [List.length_append]; show got.length + 1 ≤ _; omega, by omega, rfl, by rw [List.map_append]; rfl⟩
        rcases List.mem_append.mp hx with h | h
        · exact gm x h
        · rw [List.mem_singleton.mp h]; exact hz
  · have e0 : (ns.filter fun x => !decide (x ∈ ([] : List Str))) = ns := List.filter_eq_self.mpr fun _ _ => rfl
    exact ⟨[], .un, rfl, by rw [e0], nofun, Nat.zero_le _, hl8, rfl, by rw [e0]; rfl⟩
end
/-! ### what such an order is -/
theorem goF_spec {L : List (Str × Str)} {ns : List Str} (nd : ns.Nodup) : ∀ (k : Nat) (got : List Str), got.Nodup → (∀ z ∈ got, z ∈ ns) → (∀ a b, (a, b) ∈ L → b ∈ got → a ∈ got ∧ got.idxOf a < got.idxOf b) → ∀ o, goF L ns k got = some o → o.Nodup ∧ o.length = got.length + k ∧ (∀ z ∈ o, z ∈ ns) ∧ ∀ a b, (a, b) ∈ L → b ∈ o → a ∈ o ∧ o.idxOf a < o.idxOf b
  | 0, got, h1, h2, h3, o, e => by
    cases e
    exact ⟨h1, rfl, h2, h3⟩
  | k + 1, got, h1, h2, h3, o, e => by
    cases hf : ns.filter (frB L got) with
    | nil => rw [goF_none hf] at e; cases e
    | cons z zs =>
      rw [goF_some hf] at e
      have hzf : z ∈ ns.filter (frB L got) := hf ▸ List.mem_cons_self
      obtain ⟨hz, hb⟩ := List.mem_filter.mp hzf
      unfold frB at hb
      rw [Bool.and_eq_true] at hb
      have hzg : z ∉ got := by simpa using hb.1
      have hp : ∀ x ∈ prd L z, x ∈ got := fun x hx => of_decide_eq_true (List.all_eq_true.mp hb.2 x hx)
      have ix : ∀ x ∈ got, (got ++ [z]).idxOf x = got.idxOf x := fun x hx => by rw [List.idxOf_append, if_pos hx]
      have iz : (got ++ [z]).idxOf z = got.length := by
        rw [List.idxOf_append, if_neg hzg]
        simp
      obtain ⟨a1, a2, a3, a4⟩ := goF_spec nd k (got ++ [z]) (by
        rw [List.nodup_append]
        exact ⟨h1, by simp, fun x hx y hy => by rw [List.mem_singleton.mp hy]; exact fun e => hzg (e ▸ hx)⟩) (fun x hx => by
        rcases List.mem_append.mp hx with h | h
        · exact h2 x h
        · rw [List.mem_singleton.mp h]; exact hz) (fun a b hab hb => by
        rcases List.mem_append.mp hb with h | h
        · obtain ⟨q1, q2⟩ := h3 a b hab h
          exact ⟨List.mem_append_left _ q1, by rw [ix a q1, ix b h]; exact q2⟩
        · have : b = z := List.mem_singleton.mp h
          subst this
          have q1 := hp a (prd_mem.mpr hab)
          exact ⟨List.mem_append_left _ q1, by rw [ix a q1, iz]; exact List.idxOf_lt_length_of_mem q1⟩) o e
      exact ⟨a1, by rw [a2, List.length_append]; show got.length + 1 + k = _; omega, a3, a4⟩
theorem perm_of_sub {ns o : List Str} (nn : ns.Nodup) (nd : o.Nodup) (hl : o.length = ns.length) (hs : ∀ z ∈ o, z ∈ ns) : o.Perm ns := (List.perm_ext_iff_of_nodup nd nn).mpr fun x => ⟨hs x, fun hx => by
  refine Classical.byContradiction fun hn => ?_
  have := nd_le (xs := x :: o) (ys := ns) (List.nodup_cons.mpr ⟨hn, nd⟩) fun y hy => by
    rcases List.mem_cons.mp hy with rfl | hy
    · exact hx
    · exact hs y hy
  rw [List.length_cons] at this
  omega⟩
/-- an arrow for each road -/
structure ArrOf (rs L : List (Str × Str)) : Prop where
  len : L.length = rs.length
  at_ : ∀ (i : Nat) (p r : Str × Str), L[i]? = some p → rs[i]? = some r → p = r ∨ p = flip2 r
section
variable {ns : List Str} {rs L : List (Str × Str)}
theorem ArrOf.nm (A : ArrOf rs L) (W : WebOk (fun z => nameS z = true) ns rs) : NmOk L := fun p hp => by
  obtain ⟨i, hi⟩ := List.mem_iff_getElem?.mp hp
  have hl := (List.getElem?_eq_some_iff.mp hi).1
  obtain ⟨r, hr⟩ : ∃ r, rs[i]? = some r := ⟨rs[i]'(by rw [← A.len]; exact hl), List.getElem?_eq_getElem _⟩
  have e := W.en r (List.mem_of_getElem? hr)
  rcases A.at_ i p r hi hr with rfl | rfl
  · exact ⟨W.nm _ e.1, W.nm _ e.2.1⟩
  · exact ⟨W.nm _ e.2.1, W.nm _ e.1⟩
theorem ars_of (ord : List Str) : ArrOf rs (ars ord rs) := ⟨by unfold ars; rw [List.length_map], fun i p r hp hr => by
  unfold ars at hp
  rw [List.getElem?_map, hr] at hp
  cases hp
  unfold arw
  split
  · exact .inl rfl
  · exact .inr rfl⟩
theorem fst_ord (W : WebOk (fun z => nameS z = true) ns rs) {o : List Str} (h : fstO ns L = some o) : OrdOk ns o := by
  obtain ⟨a1, a2, a3, a4⟩ := goF_spec W.nd ns.length [] (by simp) nofun (fun a b _ h => by cases h) o h
  exact ⟨perm_of_sub W.nd a1 (by simpa using a2) a3⟩
theorem fst_ars (W : WebOk (fun z => nameS z = true) ns rs) (A : ArrOf rs L) {o : List Str} (h : fstO ns L = some o) : ars o rs = L := by
  have O := fst_ord W h
  obtain ⟨a1, a2, a3, a4⟩ := goF_spec W.nd ns.length [] (by simp) nofun (fun a b _ h => by cases h) o h
  refine List.ext_getElem? fun i => ?_
  unfold ars
  rw [List.getElem?_map]
  cases hr : rs[i]? with
  | none =>
    rw [List.getElem?_eq_none_iff] at hr
    rw [List.getElem?_eq_none (by rw [A.len]; exact hr)]
    rfl
  | some r =>
    have hl := (List.getElem?_eq_some_iff.mp hr).1
    obtain ⟨p, hp⟩ : ∃ p, L[i]? = some p := ⟨L[i]'(by rw [A.len]; exact hl), List.getElem?_eq_getElem _⟩
    rw [hp]
    show some (arw o r) = some p
    have e := W.en r (List.mem_of_getElem? hr)
    have m1 : r.1 ∈ o := O.pm.mem_iff.mpr e.1
    have m2 : r.2 ∈ o := O.pm.mem_iff.mpr e.2.1
    have hm := List.mem_of_getElem? hp
    unfold arw
    rcases A.at_ i p r hp hr with rfl | rfl
    · rw [if_pos (a4 p.1 p.2 hm m2).2]
    · have := (a4 r.2 r.1 hm m1).2
      rw [if_neg (by omega)]
      rfl
end

/-! ### V60: what are arrows -/
/-- an element of what may be near arrows -/
def El (e : D) : Prop := (e.canLay0 = true ∧ e.depth ≤ 3 ∧ canon e = true) ∨ e = .dict []
section
variable {r : Str × Str} {e : D}
end
section
variable {ns : List Str} {rs : List (Str × Str)} {d : D}
end
/-! ### V61: drawn arrows, things near them, orders for them -/
section
variable {ns : List Str} {rs L : List (Str × Str)} {n : Nat} {a b c : Int}
end

/-! ### V62: orders for arrows -/
section
variable {ns : List Str} {rs L : List (Str × Str)} {d : D}
theorem e_first_alike {ord : List Str} (W : WebOk (fun z => nameS z = true) ns rs) (O : OrdOk ns ord) {Q : RV → Ev → Prop} (kq : Q (.d (orD (fstO ns (ars ord rs)))) [.v (webD ns rs), .v (ordD ord)]) : wp fm_first_alike [.v (webD ns rs), .v (ordD ord)] Q := by
  have A := ars_of (rs := rs) ord
  have hl : (ars ord rs).length ≤ 100 := by rw [A.len]; have := W.rl; omega
  unfold fm_first_alike ms_first_alike
  repeat infer_instance
  refine e_need_web W ?_
  repeat infer_instance
  refine e_need_orderW W O ?_
  repeat infer_instance
  refine e_arrows_of W O ?_
  repeat infer_instance
  refine e_first_order W (A.nm W) hl ?_
  repeat infer_instance
  exact kq
end
/-! ### an order, or None, shown -/
theorem fst_nm {ns o : List Str} {rs L : List (Str × Str)} (W : WebOk (fun z => nameS z = true) ns rs) (h : fstO ns L = some o) : (∀ z ∈ o, nameS z = true) ∧ o.length ≤ 8 := by
  have O := fst_ord W h
  exact ⟨fun z hz => W.nm z (O.pm.mem_iff.mp hz), by rw [O.pm.length_eq]; exact W.l2⟩
theorem orD_shows {ns : List Str} {rs L : List (Str × Str)} (W : WebOk (fun z => nameS z = true) ns rs) : showsD (orD (fstO ns L)) = true := by
  cases h : fstO ns L with
  | none => rfl
  | some o =>
    obtain ⟨h1, h2⟩ := fst_nm W h
    refine rep_shows (dep := 1) (w := o.length * (17 + 1)) ?_ (by decide) (by omega)
    have := rep_tup (dep := 0) (w := 17) (ds := o.map PyData.str) fun d hd => by
      obtain ⟨z, hz, rfl⟩ := List.mem_map.mp hd
      exact rep_str (Nat.le_trans (nameS_len (h1 z hz)) (by decide)) (nameS_ok (h1 z hz))
    rw [List.length_map] at this
    exact this
theorem orD_shaped {ns : List Str} {rs L : List (Str × Str)} (W : WebOk (fun z => nameS z = true) ns rs) : SeqAt.shaped (orD (fstO ns L)) = true := by
  cases h : fstO ns L with
  | none => rfl
  | some o =>
    obtain ⟨h1, h2⟩ := fst_nm W h
    exact shaped_tup (flat_str (strOk_of h1)) (by decide)
theorem orD_canon {o : Option (List Str)} : canon (orD o) = true := by
  cases o with
  | none => rfl
  | some o =>
    show canonAll _ = true
    refine canonAll_of fun d hd => ?_
    obtain ⟨z, _, rfl⟩ := List.mem_map.mp hd
    rfl
section
variable {ns : List Str} {rs L : List (Str × Str)}
end
/-! ### shut in, or laid -/
section
variable {ns S : List Str} {rs L : List (Str × Str)}
end

section
variable {ns S : List Str} {rs L : List (Str × Str)}
end

/-! ### V65: what is a ring of arrows -/
def inB (ns : List Str) : D → Bool
  | .str x => decide (x ∈ ns)
  | _ => false
theorem inB_all {ns ss : List Str} (h : ∀ z ∈ ss, z ∈ ns) : (ss.map PyData.str).all (inB ns) = true := by
  rw [List.all_map]
  exact List.all_eq_true.mpr fun z hz => decide_eq_true (h z hz)
section
variable {ns : List Str} {rs L : List (Str × Str)} {d : D}
end

/-! ### V66: rings told, things near them -/
section
variable {ns : List Str} {rs L : List (Str × Str)} {d t : D} {n : Nat} {a b c : Int}
end

section
variable {ns : List Str} {rs L : List (Str × Str)} {n : Nat} {a b c : Int}
end

end PK

namespace PK
open PySem PySem.Spec PyProof.Rows L2 PL
variable [TheW]
local macro_rules | `(tactic| infer_instance) => `(tactic| dsimp only)
local macro_rules | `(tactic| infer_instance) => `(tactic| with_reducible refine le_ok (by with_unfolding_all rfl) ?_)
local macro_rules | `(tactic| infer_instance) => `(tactic| with_reducible refine pick_ok (by with_unfolding_all rfl) (by dsimp only [pick, List.filterMap, List.getElem?_cons_succ, List.getElem?_cons_zero] <;> exact rfl) ?_)
local macro_rules | `(tactic| infer_instance) => `(tactic| with_reducible refine free_ok (by with_unfolding_all rfl) ?_)
local macro_rules | `(tactic| infer_instance) => `(tactic| with_reducible refine ty_ok (by with_unfolding_all rfl) ?_)
local macro_rules | `(tactic| infer_instance) => `(tactic| (with_reducible refine g_chq ?_; first | with_reducible refine ch_lt ?_ | with_reducible refine ch_le ?_))
local macro_rules | `(tactic| infer_instance) => `(tactic| (with_reducible refine g_sl1 ?_; first | with_reducible refine s1_T ?_ | with_reducible refine s1_L ?_))
local macro_rules | `(tactic| infer_instance) => `(tactic| (with_reducible refine g_op1 ?_; first | with_reducible refine v_revT ?_ | with_reducible refine v_revL ?_ | with_reducible refine o_isi_t (by with_unfolding_all rfl) ?_ | with_reducible refine o_isi_f (by with_unfolding_all rfl) ?_))
local macro_rules | `(tactic| infer_instance) => `(tactic| (with_reducible refine g_sq1 ?_; first | with_reducible refine sq_S ?_ | with_reducible refine sq_T ?_ | with_reducible refine sq_L ?_))
local macro_rules | `(tactic| infer_instance) => `(tactic| with_reducible refine isI_ok ?_)
local macro_rules | `(tactic| infer_instance) => `(tactic| (with_reducible refine g_mtk ?_; first | with_reducible refine v_appB (by with_unfolding_all rfl) (by simp only [List.length_map, List.length_append, List.length_cons, List.length_nil, List.length_range, List.length_take, sizeLine_eq]; omega) (by (try (show List.set (_ :: _) _ _ = _)); dsimp only [List.set] <;> exact rfl) ?_ | with_reducible refine v_app (by with_unfolding_all rfl) (by simp only [List.length_map, List.length_append, List.length_cons, List.length_nil, List.length_range, List.length_take, sizeLine_eq]; omega) (by (try (show List.set (_ :: _) _ _ = _)); dsimp only [List.set] <;> exact rfl) ?_))
local macro_rules | `(tactic| infer_instance) => `(tactic| (with_reducible refine g_ret1 ?_; first | with_reducible refine ret_nl (by first | (dsimp only [pbs, setOc, List.getElem?_cons_succ, List.getElem?_cons_zero, List.set] <;> exact rfl) | exact rfl) ?_ | with_reducible refine ret_d (by first | (dsimp only [pbs, setOc, List.getElem?_cons_succ, List.getElem?_cons_zero, List.set] <;> exact rfl) | exact rfl) ?_))
local macro_rules | `(tactic| infer_instance) => `(tactic| with_reducible refine callq_ok (by with_unfolding_all rfl) ?_)
local macro_rules | `(tactic| infer_instance) => `(tactic| (with_reducible refine g_stoAll ?_; first | with_reducible refine sa_cons (by with_unfolding_all rfl) ?_ | with_reducible refine sa_nil ?_))
local macro_rules | `(tactic| infer_instance) => `(tactic| (with_reducible refine g_sto ?_; first | with_reducible refine v_sto_al (by with_unfolding_all rfl) (by (try (show List.set (_ :: _) _ _ = _)); dsimp only [List.set] <;> exact rfl) (by with_unfolding_all first | exact rfl | assumption | exact fr_nb (by assumption)) (by (try (show List.set (_ :: _) _ _ = _)); dsimp only [List.set] <;> exact rfl) ?_ | with_reducible refine v_sto_nl (by with_unfolding_all first | exact rfl | assumption | exact fr_nb (by assumption)) (by (try (show List.set (_ :: _) _ _ = _)); dsimp only [List.set] <;> exact rfl) ?_ | with_reducible refine v_sto_d (by with_unfolding_all first | exact rfl | assumption | exact fr_nb (by assumption)) (by (try (show List.set (_ :: _) _ _ = _)); dsimp only [List.set] <;> exact rfl) ?_))
local macro_rules | `(tactic| infer_instance) => `(tactic| (with_reducible refine g_tg1 ?_; first | with_reducible refine t_triple (by with_unfolding_all first | exact rfl | assumption | exact fr_nb (by assumption)) (by (try (show List.set (_ :: _) _ _ = _)); dsimp only [List.set] <;> exact rfl) (by with_unfolding_all first | exact rfl | assumption | exact fr_nb (by assumption)) (by (try (show List.set (_ :: _) _ _ = _)); dsimp only [List.set] <;> exact rfl) (by with_unfolding_all first | exact rfl | assumption | exact fr_nb (by assumption)) (by (try (show List.set (_ :: _) _ _ = _)); dsimp only [List.set] <;> exact rfl) ?_ | with_reducible refine t_pair (by with_unfolding_all first | exact rfl | assumption | exact fr_nb (by assumption)) (by (try (show List.set (_ :: _) _ _ = _)); dsimp only [List.set] <;> exact rfl) (by with_unfolding_all first | exact rfl | assumption | exact fr_nb (by assumption)) (by (try (show List.set (_ :: _) _ _ = _)); dsimp only [List.set] <;> exact rfl) ?_ | with_reducible refine t_name (by with_unfolding_all first | exact rfl | assumption | exact fr_nb (by assumption)) (by (try (show List.set (_ :: _) _ _ = _)); dsimp only [List.set] <;> exact rfl) ?_))
local macro_rules | `(tactic| infer_instance) => `(tactic| (with_reducible refine g_endq ?_; first | with_reducible refine en_rt ?_ | with_reducible refine en_bk ?_ | with_reducible refine en_ct ?_ | with_reducible refine en_nx ?_))
local macro_rules | `(tactic| infer_instance) => `(tactic| (with_reducible refine g_retq ?_; first | with_reducible refine rq_al (by with_unfolding_all rfl) (by first | (dsimp only [outl, outDV, List.getElem?_cons_succ, List.getElem?_cons_zero] <;> exact rfl) | exact rfl) ?_ | with_reducible refine rq_nl (by first | (dsimp only [outl, outDV, List.getElem?_cons_succ, List.getElem?_cons_zero] <;> exact rfl) | exact rfl) ?_ | with_reducible refine rq_d (by first | (dsimp only [outl, outDV, List.getElem?_cons_succ, List.getElem?_cons_zero] <;> exact rfl) | exact rfl) ?_ | with_reducible refine rq_nx (by first | (dsimp only [outl, outDV, List.getElem?_cons_succ, List.getElem?_cons_zero] <;> exact rfl) | exact rfl) ?_))
local macro_rules | `(tactic| infer_instance) => `(tactic| (with_reducible refine g_opn ?_; first | with_reducible refine n_tupT ?_ | with_reducible refine n_tupL ?_ | with_reducible refine n_lstT ?_ | with_reducible refine n_lstL ?_ | with_reducible refine n_min2 ?_ | with_reducible refine n_max2 ?_ | with_reducible refine n_intB ?_ | with_reducible refine n_intI ?_ | with_reducible refine n_lenT ?_ | with_reducible refine n_lenL ?_))
local macro_rules | `(tactic| infer_instance) => `(tactic| (with_reducible refine g_argq ?_; first | with_reducible refine aq_brw (by with_unfolding_all rfl) ?_ | with_reducible refine aq_own (by with_unfolding_all rfl) ?_ | with_reducible refine aq_nl ?_ | with_reducible refine aq_d ?_ | with_reducible refine aq_nil ?_))
local macro_rules | `(tactic| infer_instance) => `(tactic| (with_reducible refine g_lks ?_; first | with_reducible refine l_cons ?_ | with_reducible refine l_nil ?_))
local macro_rules | `(tactic| infer_instance) => `(tactic| (with_reducible refine g_wpO ?_; first | with_reducible refine v_oS ?_ | with_reducible refine w_oN ?_))
local macro_rules | `(tactic| infer_instance) => `(tactic| (with_reducible refine g_wpA ?_; first | with_reducible refine w_acons ?_ | with_reducible refine w_anil ?_))
local macro_rules | `(tactic| infer_instance) => `(tactic| (with_reducible refine g_wpDs ?_; first | with_reducible refine w_seqI ?_ | with_reducible refine w_range2 ?_ | with_reducible refine w_range1 ?_ | with_reducible refine w_dcons ?_ | with_reducible refine w_dnil ?_))
local macro_rules | `(tactic| infer_instance) => `(tactic| with_reducible refine if_no (by with_unfolding_all rfl) ?_)
local macro_rules | `(tactic| infer_instance) => `(tactic| with_reducible refine if_yes (by with_unfolding_all rfl) ?_)
local macro_rules | `(tactic| infer_instance) => `(tactic| with_reducible refine isB_ok ?_)
local macro_rules | `(tactic| infer_instance) => `(tactic| (with_reducible refine g_wpT ?_; first | with_reducible refine w_yes ?_ | with_reducible refine w_Not ?_ | with_reducible refine w_Or ?_ | with_reducible refine w_And ?_ | with_reducible refine v_B ?_))
local macro_rules | `(tactic| infer_instance) => `(tactic| with_reducible refine w_F ?_)
local macro_rules | `(tactic| infer_instance) => `(tactic| (with_reducible refine g_fz1 ?_; first | with_reducible refine v_fz_ownM (by with_unfolding_all rfl) (by (try (show List.set (_ :: _) _ _ = _)); dsimp only [List.set] <;> exact rfl) ?_ | with_reducible refine v_fz_ownL (by with_unfolding_all rfl) (by (try (show List.set (_ :: _) _ _ = _)); dsimp only [List.set] <;> exact rfl) ?_ | with_reducible refine fz_nlM' ?_ | with_reducible refine fz_nlL' ?_ | with_reducible refine fz_d' ?_))
local macro_rules | `(tactic| infer_instance) => `(tactic| (with_reducible refine g_op2 ?_; first | with_reducible refine o_eqS_same ?_ | with_reducible refine o_notinSS ?_ | with_reducible refine o_inSS ?_ | with_reducible refine o_neI ?_ | with_reducible refine o_eqI ?_ | with_reducible refine o_neS_same ?_ | with_reducible refine o_neS ?_ | with_reducible refine o_eqS ?_ | with_reducible refine o_mod (by with_unfolding_all decide) ?_ | with_reducible refine o_pow (by with_unfolding_all decide) ?_ | with_reducible refine o_ixT (by with_unfolding_all rfl) ?_ | with_reducible refine o_ixL (by with_unfolding_all rfl) ?_ | with_reducible refine o_ge ?_ | with_reducible refine o_gt ?_ | with_reducible refine o_le ?_ | with_reducible refine o_lt ?_ | with_reducible refine o_sub ?_ | with_reducible refine o_addI ?_))
local macro_rules | `(tactic| infer_instance) => `(tactic| (with_reducible refine g_lkq ?_; first | with_reducible refine v_lk_brwM (by with_unfolding_all rfl) ?_ | with_reducible refine v_lk_ownM (by with_unfolding_all rfl) ?_ | with_reducible refine v_lk_nlM ?_ | with_reducible refine lk_brwL (by with_unfolding_all rfl) ?_ | with_reducible refine lk_ownL (by with_unfolding_all rfl) ?_ | with_reducible refine lk_nlL ?_ | with_reducible refine lk_d ?_))
local macro_rules | `(tactic| infer_instance) => `(tactic| (with_reducible refine g_wpS ?_; first | with_reducible refine v_parN ?_ | with_reducible refine v_par3 ?_ | with_reducible refine v_par2 ?_ | with_reducible refine w_put ?_ | with_reducible refine w_asg ?_ | with_reducible refine w_set ?_ | with_reducible refine w_ifS ?_ | with_reducible refine w_retN ?_ | with_reducible refine w_ret ?_ | with_reducible refine w_drop ?_ | with_reducible refine w_ct ?_ | with_reducible refine w_bk ?_ | with_reducible refine w_nx ?_ | with_reducible refine w_seq ?_))
local macro_rules | `(tactic| infer_instance) => `(tactic| (with_reducible refine g_wpE ?_; first | with_reducible refine w_of ?_ | with_reducible refine v_dic0 ?_ | with_reducible refine v_mq ?_ | with_reducible refine v_chain ?_ | with_reducible refine v_fn (by with_unfolding_all rfl) (by with_unfolding_all rfl) (by dsimp only [Nat.reduceSub, List.replicate, List.cons_append, List.nil_append] <;> exact rfl) ?_ | with_reducible refine v_mtL (by with_unfolding_all rfl) ?_ | with_reducible refine v_callK ?_ | with_reducible refine v_call ?_ | with_reducible refine w_NotV ?_ | with_reducible refine w_OrV ?_ | with_reducible refine w_AndV ?_ | with_reducible refine w_sl ?_ | with_reducible refine w_varB (by with_unfolding_all rfl) ?_ | with_reducible refine w_varO (by with_unfolding_all rfl) ?_ | with_reducible refine w_var (by with_unfolding_all rfl) ?_ | with_reducible refine v_tup ?_ | with_reducible refine v_lst ?_ | with_reducible refine w_If ?_ | with_reducible refine w_c ?_ | with_reducible refine w_m2 ?_ | with_reducible refine w_m1 ?_ | with_reducible refine w_callN ?_))
/-! what can be shown, with empty dicts in it -/
structure RepZ (dep w : Nat) (d : D) : Prop where
  z : zd d = true
  dp : d.depth ≤ dep
  is : d.leavesShort 30 = true
  sh : d.showable = true
  wt : d.weight ≤ w
theorem RepZ.mono {dep w dep' w' : Nat} {d : D} (h : RepZ dep w d) (h1 : dep ≤ dep') (h2 : w ≤ w') : RepZ dep' w' d := ⟨h.z, Nat.le_trans h.dp h1, h.is, h.sh, Nat.le_trans h.wt h2⟩
/-- an element of what is near moves -/
def Em (e : D) : Prop := RepZ 2 1000 e ∧ ∀ xs, e = .tuple xs → e.canLay0 = true
theorem Em.sh {xs : List D} (h : Em (.tuple xs)) : SeqAt.shaped (.tuple xs) = true := shaped_of (h.2 xs rfl) (Nat.le_trans h.1.dp (by decide))
section
variable {ns : List Str} {rs : List (Str × Str)}
end
end PK

namespace PK
open PySem PySem.Spec PyProof.Rows L2 PL
variable [TheW]
local macro_rules | `(tactic| infer_instance) => `(tactic| dsimp only)
local macro_rules | `(tactic| infer_instance) => `(tactic| with_reducible refine le_ok (by with_unfolding_all rfl) ?_)
local macro_rules | `(tactic| infer_instance) => `(tactic| with_reducible refine pick_ok (by with_unfolding_all rfl) (by dsimp only [pick, List.filterMap, List.getElem?_cons_succ, List.getElem?_cons_zero] <;> exact rfl) ?_)
local macro_rules | `(tactic| infer_instance) => `(tactic| with_reducible refine free_ok (by with_unfolding_all rfl) ?_)
local macro_rules | `(tactic| infer_instance) => `(tactic| with_reducible refine ty_ok (by with_unfolding_all rfl) ?_)
local macro_rules | `(tactic| infer_instance) => `(tactic| (with_reducible refine g_chq ?_; first | with_reducible refine ch_lt ?_ | with_reducible refine ch_le ?_))
local macro_rules | `(tactic| infer_instance) => `(tactic| (with_reducible refine g_sl1 ?_; first | with_reducible refine s1_T ?_ | with_reducible refine s1_L ?_))
local macro_rules | `(tactic| infer_instance) => `(tactic| (with_reducible refine g_op1 ?_; first | with_reducible refine v_revT ?_ | with_reducible refine v_revL ?_ | with_reducible refine o_isi_t (by with_unfolding_all rfl) ?_ | with_reducible refine o_isi_f (by with_unfolding_all rfl) ?_))
local macro_rules | `(tactic| infer_instance) => `(tactic| (with_reducible refine g_sq1 ?_; first | with_reducible refine sq_S ?_ | with_reducible refine sq_T ?_ | with_reducible refine sq_L ?_))
local macro_rules | `(tactic| infer_instance) => `(tactic| with_reducible refine isI_ok ?_)
local macro_rules | `(tactic| infer_instance) => `(tactic| (with_reducible refine g_mtk ?_; first | with_reducible refine v_appB (by with_unfolding_all rfl) (by simp only [List.length_map, List.length_append, List.length_cons, List.length_nil, List.length_range, List.length_take, sizeLine_eq]; omega) (by (try (show List.set (_ :: _) _ _ = _)); dsimp only [List.set] <;> exact rfl) ?_ | with_reducible refine v_app (by with_unfolding_all rfl) (by simp only [List.length_map, List.length_append, List.length_cons, List.length_nil, List.length_range, List.length_take, sizeLine_eq]; omega) (by (try (show List.set (_ :: _) _ _ = _)); dsimp only [List.set] <;> exact rfl) ?_))
local macro_rules | `(tactic| infer_instance) => `(tactic| (with_reducible refine g_ret1 ?_; first | with_reducible refine ret_nl (by first | (dsimp only [pbs, setOc, List.getElem?_cons_succ, List.getElem?_cons_zero, List.set] <;> exact rfl) | exact rfl) ?_ | with_reducible refine ret_ob (by first | (dsimp only [pbs, setOc, List.getElem?_cons_succ, List.getElem?_cons_zero, List.set] <;> exact rfl) | exact rfl) ?_ | with_reducible refine ret_d (by first | (dsimp only [pbs, setOc, List.getElem?_cons_succ, List.getElem?_cons_zero, List.set] <;> exact rfl) | exact rfl) ?_))
local macro_rules | `(tactic| infer_instance) => `(tactic| with_reducible refine callq_ok (by with_unfolding_all rfl) ?_)
local macro_rules | `(tactic| infer_instance) => `(tactic| (with_reducible refine g_stoAll ?_; first | with_reducible refine sa_cons (by with_unfolding_all rfl) ?_ | with_reducible refine sa_nil ?_))
local macro_rules | `(tactic| infer_instance) => `(tactic| (with_reducible refine g_sto ?_; first | with_reducible refine v_sto_al (by with_unfolding_all rfl) (by (try (show List.set (_ :: _) _ _ = _)); dsimp only [List.set] <;> exact rfl) (by with_unfolding_all first | exact rfl | assumption | exact fr_nb (by assumption)) (by (try (show List.set (_ :: _) _ _ = _)); dsimp only [List.set] <;> exact rfl) ?_ | with_reducible refine v_sto_nl (by with_unfolding_all first | exact rfl | assumption | exact fr_nb (by assumption)) (by (try (show List.set (_ :: _) _ _ = _)); dsimp only [List.set] <;> exact rfl) ?_ | with_reducible refine v_sto_d (by with_unfolding_all first | exact rfl | assumption | exact fr_nb (by assumption)) (by (try (show List.set (_ :: _) _ _ = _)); dsimp only [List.set] <;> exact rfl) ?_ | with_reducible refine v_sto_ob (by with_unfolding_all first | exact rfl | assumption | exact fr_nb (by assumption)) (by (try (show List.set (_ :: _) _ _ = _)); dsimp only [List.set] <;> exact rfl) ?_))
local macro_rules | `(tactic| infer_instance) => `(tactic| (with_reducible refine g_tg1 ?_; first | with_reducible refine t_triple (by with_unfolding_all first | exact rfl | assumption | exact fr_nb (by assumption)) (by (try (show List.set (_ :: _) _ _ = _)); dsimp only [List.set] <;> exact rfl) (by with_unfolding_all first | exact rfl | assumption | exact fr_nb (by assumption)) (by (try (show List.set (_ :: _) _ _ = _)); dsimp only [List.set] <;> exact rfl) (by with_unfolding_all first | exact rfl | assumption | exact fr_nb (by assumption)) (by (try (show List.set (_ :: _) _ _ = _)); dsimp only [List.set] <;> exact rfl) ?_ | with_reducible refine t_pair (by with_unfolding_all first | exact rfl | assumption | exact fr_nb (by assumption)) (by (try (show List.set (_ :: _) _ _ = _)); dsimp only [List.set] <;> exact rfl) (by with_unfolding_all first | exact rfl | assumption | exact fr_nb (by assumption)) (by (try (show List.set (_ :: _) _ _ = _)); dsimp only [List.set] <;> exact rfl) ?_ | with_reducible refine t_name (by with_unfolding_all first | exact rfl | assumption | exact fr_nb (by assumption)) (by (try (show List.set (_ :: _) _ _ = _)); dsimp only [List.set] <;> exact rfl) ?_))
local macro_rules | `(tactic| infer_instance) => `(tactic| (with_reducible refine g_endq ?_; first | with_reducible refine en_rt ?_ | with_reducible refine en_bk ?_ | with_reducible refine en_ct ?_ | with_reducible refine en_nx ?_))
local macro_rules | `(tactic| infer_instance) => `(tactic| (with_reducible refine g_retq ?_; first | with_reducible refine rq_al (by with_unfolding_all rfl) (by first | (dsimp only [outl, outDV, List.getElem?_cons_succ, List.getElem?_cons_zero] <;> exact rfl) | exact rfl) ?_ | with_reducible refine rq_nl (by first | (dsimp only [outl, outDV, List.getElem?_cons_succ, List.getElem?_cons_zero] <;> exact rfl) | exact rfl) ?_ | with_reducible refine rq_ob (by first | (dsimp only [outl, outDV, List.getElem?_cons_succ, List.getElem?_cons_zero] <;> exact rfl) | exact rfl) ?_ | with_reducible refine rq_d (by first | (dsimp only [outl, outDV, List.getElem?_cons_succ, List.getElem?_cons_zero] <;> exact rfl) | exact rfl) ?_ | with_reducible refine rq_nx (by first | (dsimp only [outl, outDV, List.getElem?_cons_succ, List.getElem?_cons_zero] <;> exact rfl) | exact rfl) ?_))
local macro_rules | `(tactic| infer_instance) => `(tactic| (with_reducible refine g_opn ?_; first | with_reducible refine n_tupT ?_ | with_reducible refine n_tupL ?_ | with_reducible refine n_lstT ?_ | with_reducible refine n_lstL ?_ | with_reducible refine n_min2 ?_ | with_reducible refine n_max2 ?_ | with_reducible refine n_intB ?_ | with_reducible refine n_intI ?_ | with_reducible refine n_lenT ?_ | with_reducible refine n_lenL ?_))
local macro_rules | `(tactic| infer_instance) => `(tactic| (with_reducible refine g_argq ?_; first | with_reducible refine aq_brw (by with_unfolding_all rfl) ?_ | with_reducible refine aq_own (by with_unfolding_all rfl) ?_ | with_reducible refine aq_nl ?_ | with_reducible refine aq_ob ?_ | with_reducible refine aq_d ?_ | with_reducible refine aq_nil ?_))
local macro_rules | `(tactic| infer_instance) => `(tactic| (with_reducible refine g_lks ?_; first | with_reducible refine l_cons ?_ | with_reducible refine l_nil ?_))
local macro_rules | `(tactic| infer_instance) => `(tactic| (with_reducible refine g_wpO ?_; first | with_reducible refine v_oS ?_ | with_reducible refine w_oN ?_))
local macro_rules | `(tactic| infer_instance) => `(tactic| (with_reducible refine g_wpA ?_; first | with_reducible refine w_acons ?_ | with_reducible refine w_anil ?_))
local macro_rules | `(tactic| infer_instance) => `(tactic| (with_reducible refine g_wpDs ?_; first | with_reducible refine w_seqI ?_ | with_reducible refine w_range2 ?_ | with_reducible refine w_range1 ?_ | with_reducible refine w_dcons ?_ | with_reducible refine w_dnil ?_))
local macro_rules | `(tactic| infer_instance) => `(tactic| with_reducible refine if_no (by with_unfolding_all rfl) ?_)
local macro_rules | `(tactic| infer_instance) => `(tactic| with_reducible refine if_yes (by with_unfolding_all rfl) ?_)
local macro_rules | `(tactic| infer_instance) => `(tactic| with_reducible refine isB_ok ?_)
local macro_rules | `(tactic| infer_instance) => `(tactic| (with_reducible refine g_wpT ?_; first | with_reducible refine w_yes ?_ | with_reducible refine w_Not ?_ | with_reducible refine w_Or ?_ | with_reducible refine w_And ?_ | with_reducible refine v_B ?_))
local macro_rules | `(tactic| infer_instance) => `(tactic| with_reducible refine w_F ?_)
local macro_rules | `(tactic| infer_instance) => `(tactic| (with_reducible refine g_fz1 ?_; first | with_reducible refine v_fz_ownM (by with_unfolding_all rfl) (by (try (show List.set (_ :: _) _ _ = _)); dsimp only [List.set] <;> exact rfl) ?_ | with_reducible refine v_fz_ownL (by with_unfolding_all rfl) (by (try (show List.set (_ :: _) _ _ = _)); dsimp only [List.set] <;> exact rfl) ?_ | with_reducible refine fz_nlM' ?_ | with_reducible refine fz_nlL' ?_ | with_reducible refine fz_d' ?_))
local macro_rules | `(tactic| infer_instance) => `(tactic| (with_reducible refine g_op2 ?_; first | with_reducible refine o_eqS_same ?_ | with_reducible refine o_notinSS ?_ | with_reducible refine o_inSS ?_ | with_reducible refine o_neI ?_ | with_reducible refine o_eqI ?_ | with_reducible refine o_neS_same ?_ | with_reducible refine o_neS ?_ | with_reducible refine o_eqS ?_ | with_reducible refine o_mod (by with_unfolding_all decide) ?_ | with_reducible refine o_pow (by with_unfolding_all decide) ?_ | with_reducible refine o_ixT (by with_unfolding_all rfl) ?_ | with_reducible refine o_ixL (by with_unfolding_all rfl) ?_ | with_reducible refine o_ge ?_ | with_reducible refine o_gt ?_ | with_reducible refine o_le ?_ | with_reducible refine o_lt ?_ | with_reducible refine o_sub ?_ | with_reducible refine o_addI ?_))
local macro_rules | `(tactic| infer_instance) => `(tactic| (with_reducible refine g_lkq ?_; first | with_reducible refine v_lk_brwM (by with_unfolding_all rfl) ?_ | with_reducible refine v_lk_ownM (by with_unfolding_all rfl) ?_ | with_reducible refine v_lk_nlM ?_ | with_reducible refine lk_brwL (by with_unfolding_all rfl) ?_ | with_reducible refine lk_ownL (by with_unfolding_all rfl) ?_ | with_reducible refine lk_nlL ?_ | with_reducible refine lk_d ?_))
local macro_rules | `(tactic| infer_instance) => `(tactic| (with_reducible refine g_wpS ?_; first | with_reducible refine v_parN ?_ | with_reducible refine v_par3 ?_ | with_reducible refine v_par2 ?_ | with_reducible refine w_put ?_ | with_reducible refine w_asg ?_ | with_reducible refine w_set ?_ | with_reducible refine w_ifS ?_ | with_reducible refine w_retN ?_ | with_reducible refine w_ret ?_ | with_reducible refine w_drop ?_ | with_reducible refine w_ct ?_ | with_reducible refine w_bk ?_ | with_reducible refine w_nx ?_ | with_reducible refine w_seq ?_))
local macro_rules | `(tactic| infer_instance) => `(tactic| (with_reducible refine g_wpE ?_; first | with_reducible refine w_of ?_ | with_reducible refine v_dic0 ?_ | with_reducible refine v_mq ?_ | with_reducible refine v_chain ?_ | with_reducible refine v_fn (by with_unfolding_all rfl) (by with_unfolding_all rfl) (by dsimp only [Nat.reduceSub, List.replicate, List.cons_append, List.nil_append] <;> exact rfl) ?_ | with_reducible refine v_mtL (by with_unfolding_all rfl) ?_ | with_reducible refine v_callK ?_ | with_reducible refine v_call ?_ | with_reducible refine w_NotV ?_ | with_reducible refine w_OrV ?_ | with_reducible refine w_AndV ?_ | with_reducible refine w_sl ?_ | with_reducible refine w_varB (by with_unfolding_all rfl) ?_ | with_reducible refine w_varO (by with_unfolding_all rfl) ?_ | with_reducible refine w_var (by with_unfolding_all rfl) ?_ | with_reducible refine w_varOb (by with_unfolding_all rfl) ?_ | with_reducible refine w_fld ?_ | with_reducible refine w_meth ?_ | with_reducible refine w_make ?_ | with_reducible refine v_tup ?_ | with_reducible refine v_lst ?_ | with_reducible refine w_If ?_ | with_reducible refine w_c ?_ | with_reducible refine w_m2 ?_ | with_reducible refine w_m1 ?_ | with_reducible refine w_callN ?_))
local macro_rules | `(tactic| infer_instance) => `(tactic| with_reducible refine fq_ok (by with_unfolding_all rfl) ?_)
local macro_rules | `(tactic| infer_instance) => `(tactic| with_reducible refine mq_ok (by with_unfolding_all rfl) ?_)
local macro_rules | `(tactic| infer_instance) => `(tactic| with_reducible refine nd_ok (by with_unfolding_all rfl) ?_)
local macro_rules | `(tactic| infer_instance) => `(tactic| (with_reducible refine g_xret1 ?_; first | with_reducible refine xc_d (by first | (dsimp only [pbs, setOc, List.getElem?_cons_succ, List.getElem?_cons_zero, List.set] <;> exact rfl) | exact rfl) ?_ | with_reducible refine xc_nl (by first | (dsimp only [pbs, setOc, List.getElem?_cons_succ, List.getElem?_cons_zero, List.set] <;> exact rfl) | exact rfl) ?_ | with_reducible refine xc_ob (by first | (dsimp only [pbs, setOc, List.getElem?_cons_succ, List.getElem?_cons_zero, List.set] <;> exact rfl) | exact rfl) ?_ | with_reducible refine xc_ex (by first | (dsimp only [pbs, setOc, List.getElem?_cons_succ, List.getElem?_cons_zero, List.set] <;> exact rfl) | exact rfl) ?_))
local macro_rules | `(tactic| infer_instance) => `(tactic| (with_reducible refine g_xretq ?_; first | with_reducible refine xq_ex (by first | (dsimp only [outl, outDV, List.getElem?_cons_succ, List.getElem?_cons_zero] <;> exact rfl) | exact rfl) ?_ | with_reducible refine xq_o ?_))
local macro_rules | `(tactic| infer_instance) => `(tactic| (with_reducible refine g_xsq ?_; first | with_reducible refine xs_nx ?_ | with_reducible refine xs_rt ?_ | with_reducible refine xs_ex ?_))
local macro_rules | `(tactic| infer_instance) => `(tactic| (with_reducible refine g_xdq ?_; first | with_reducible refine xd_ok ?_ | with_reducible refine xd_ex ?_))
local macro_rules | `(tactic| infer_instance) => `(tactic| (with_reducible refine g_xrq ?_; first | with_reducible refine xr_ok ?_ | with_reducible refine xr_ex ?_))
local macro_rules | `(tactic| infer_instance) => `(tactic| (with_reducible refine g_xsetq ?_; first | with_reducible refine xst_ok ?_ | with_reducible refine xst_ex ?_))
local macro_rules | `(tactic| infer_instance) => `(tactic| (with_reducible refine g_xtupq ?_; first | with_reducible refine xt_ok ?_ | with_reducible refine xt_ex ?_))
local macro_rules | `(tactic| infer_instance) => `(tactic| (with_reducible refine g_xopq ?_; first | with_reducible refine xo_ok ?_ | with_reducible refine xo_ex ?_))
local macro_rules | `(tactic| infer_instance) => `(tactic| (with_reducible refine g_tryq ?_; first | with_reducible refine tr_o ?_ | with_reducible refine tr_ex (by with_unfolding_all rfl) (by with_unfolding_all rfl) (by with_unfolding_all rfl) (by (try (show List.set (_ :: _) _ _ = _)); dsimp only [List.set] <;> exact rfl) ?_))
local macro_rules | `(tactic| infer_instance) => `(tactic| (with_reducible refine g_wpSX ?_; first | with_reducible refine wx_seq ?_ | with_reducible refine wx_if ?_ | with_reducible refine wx_raise ?_ | with_reducible refine wx_drop ?_ | with_reducible refine wx_ret ?_ | with_reducible refine wx_set ?_ | with_reducible refine wx_lift ?_))
local macro_rules | `(tactic| infer_instance) => `(tactic| (with_reducible refine g_wpEX ?_; first | with_reducible refine wx_fn (by with_unfolding_all rfl) (by with_unfolding_all rfl) (by dsimp only [Nat.reduceSub, List.replicate, List.cons_append, List.nil_append] <;> exact rfl) ?_ | with_reducible refine wx_callK ?_ | with_reducible refine wx_call ?_ | with_reducible refine wx_tup1 ?_ | with_reducible refine wx_ifE ?_ | with_reducible refine wx_op2 ?_ | with_reducible refine wx_liftE ?_))
local macro_rules | `(tactic| infer_instance) => `(tactic| with_reducible refine xcallq_ok (by with_unfolding_all rfl) ?_)
local macro_rules | `(tactic| infer_instance) => `(tactic| with_reducible refine w_isE (by with_unfolding_all rfl) ?_)
local macro_rules | `(tactic| infer_instance) => `(tactic| with_reducible refine wx_try ?_)
local macro_rules | `(tactic| infer_instance) => `(tactic| (with_reducible refine g_tend ?_; with_reducible refine te_ok (by with_unfolding_all rfl) (by with_unfolding_all rfl) (by (try (show List.set (_ :: _) _ _ = _)); dsimp only [List.set] <;> exact rfl) ?_))
/-! ### V72: moved orders, things near moves -/
section
variable {ns : List Str} {rs : List (Str × Str)} {ord : List Str} {d : D}
end

/-! ### V73: things near moves, drawn -/
section
variable {ns : List Str} {rs : List (Str × Str)} {ord : List Str} {n : Nat} {a b c : Int}
end

/-! ### V74: rings of a web -/
theorem alG {α : Type} {P : α → Prop} {ds es : List α} (h : ∀ d ∈ ds, P d) (hs : ∀ d ∈ es, P d) : ∀ x ∈ ds ++ es, P x := fun x hx => (List.mem_append.mp hx).elim (h x) (hs x)
theorem alS {α : Type} {P : α → Prop} {ds : List α} {d : α} (h : ∀ d ∈ ds, P d) (hs : P d) : ∀ x ∈ ds ++ [d], P x := alG h fun x hx => by rw [List.mem_singleton.mp hx]; exact hs
def adj (rs : List (Str × Str)) (x y : Str) : Bool := decide ((x, y) ∈ rs) || decide ((y, x) ∈ rs)
def cyc {α : Type} (w : List α) : List (α × α) := w.zip (w.drop 1 ++ w.take 1)
/-- a way -/
structure Way (ns : List Str) (rs : List (Str × Str)) (w : List Str) : Prop where
  ne : 0 < w.length
  nd : w.Nodup
  sub : ∀ z ∈ w, z ∈ ns
  ch : ∀ i x y, w[i]? = some x → w[i + 1]? = some y → adj rs x y = true
/-- a ring -/
structure Rng (ns : List Str) (rs : List (Str × Str)) (w : List Str) : Prop where
  nd : w.Nodup
  sub : ∀ z ∈ w, z ∈ ns
  l3 : 3 ≤ w.length
  ad : ∀ p ∈ cyc w, adj rs p.1 p.2 = true
theorem rot_at {α : Type} {w : List α} {j : Nat} (hj : j < w.length) : (w.drop 1 ++ w.take 1)[j]? = if j + 1 = w.length then w[0]? else w[j + 1]? := by
  by_cases h : j + 1 = w.length
  · rw [if_pos h, List.getElem?_append_right (by rw [List.length_drop]; omega), List.length_drop, show j - (w.length - 1) = 0 by omega, List.getElem?_take, if_pos (by decide)]
  · rw [if_neg h, List.getElem?_append_left (by rw [List.length_drop]; omega), List.getElem?_drop, Nat.add_comm 1 j]
/-- how many ways are there behind one with so many places left -/
def wt : Nat → Nat
  | 0 => 1
  | m + 1 => 1 + (m + 1) * wt m
section
variable {ns : List Str} {rs : List (Str × Str)}
theorem Way.len {w : List Str} (h : Way ns rs w) : w.length ≤ ns.length := nd_le h.nd h.sub
end
end PK

namespace PK
open PySem PySem.Spec PyProof.Rows L2 PL
variable [TheW]
local macro_rules | `(tactic| infer_instance) => `(tactic| dsimp only)
local macro_rules | `(tactic| infer_instance) => `(tactic| with_reducible refine le_ok (by with_unfolding_all rfl) ?_)
local macro_rules | `(tactic| infer_instance) => `(tactic| with_reducible refine pick_ok (by with_unfolding_all rfl) (by dsimp only [pick, List.filterMap, List.getElem?_cons_succ, List.getElem?_cons_zero] <;> exact rfl) ?_)
local macro_rules | `(tactic| infer_instance) => `(tactic| with_reducible refine free_ok (by with_unfolding_all rfl) ?_)
local macro_rules | `(tactic| infer_instance) => `(tactic| with_reducible refine ty_ok (by with_unfolding_all rfl) ?_)
local macro_rules | `(tactic| infer_instance) => `(tactic| (with_reducible refine g_chq ?_; first | with_reducible refine ch_lt ?_ | with_reducible refine ch_le ?_))
local macro_rules | `(tactic| infer_instance) => `(tactic| (with_reducible refine g_sl1 ?_; first | with_reducible refine s1_T ?_ | with_reducible refine s1_L ?_))
local macro_rules | `(tactic| infer_instance) => `(tactic| (with_reducible refine g_op1 ?_; first | with_reducible refine v_revT ?_ | with_reducible refine v_revL ?_ | with_reducible refine o_isi_t (by with_unfolding_all rfl) ?_ | with_reducible refine o_isi_f (by with_unfolding_all rfl) ?_))
local macro_rules | `(tactic| infer_instance) => `(tactic| (with_reducible refine g_sq1 ?_; first | with_reducible refine sq_S ?_ | with_reducible refine sq_T ?_ | with_reducible refine sq_L ?_))
local macro_rules | `(tactic| infer_instance) => `(tactic| with_reducible refine isI_ok ?_)
local macro_rules | `(tactic| infer_instance) => `(tactic| (with_reducible refine g_mtk ?_; first | with_reducible refine v_appB (by with_unfolding_all rfl) (by simp only [List.length_map, List.length_append, List.length_cons, List.length_nil, List.length_range, List.length_take, sizeLine_eq]; omega) (by (try (show List.set (_ :: _) _ _ = _)); dsimp only [List.set] <;> exact rfl) ?_ | with_reducible refine v_app (by with_unfolding_all rfl) (by simp only [List.length_map, List.length_append, List.length_cons, List.length_nil, List.length_range, List.length_take, sizeLine_eq]; omega) (by (try (show List.set (_ :: _) _ _ = _)); dsimp only [List.set] <;> exact rfl) ?_))
local macro_rules | `(tactic| infer_instance) => `(tactic| (with_reducible refine g_ret1 ?_; first | with_reducible refine ret_nl (by first | (dsimp only [pbs, setOc, List.getElem?_cons_succ, List.getElem?_cons_zero, List.set] <;> exact rfl) | exact rfl) ?_ | with_reducible refine ret_d (by first | (dsimp only [pbs, setOc, List.getElem?_cons_succ, List.getElem?_cons_zero, List.set] <;> exact rfl) | exact rfl) ?_))
local macro_rules | `(tactic| infer_instance) => `(tactic| with_reducible refine callq_ok (by with_unfolding_all rfl) ?_)
local macro_rules | `(tactic| infer_instance) => `(tactic| (with_reducible refine g_stoAll ?_; first | with_reducible refine sa_cons (by with_unfolding_all rfl) ?_ | with_reducible refine sa_nil ?_))
local macro_rules | `(tactic| infer_instance) => `(tactic| (with_reducible refine g_sto ?_; first | with_reducible refine v_sto_al (by with_unfolding_all rfl) (by (try (show List.set (_ :: _) _ _ = _)); dsimp only [List.set] <;> exact rfl) (by with_unfolding_all first | exact rfl | assumption | exact fr_nb (by assumption)) (by (try (show List.set (_ :: _) _ _ = _)); dsimp only [List.set] <;> exact rfl) ?_ | with_reducible refine v_sto_nl (by with_unfolding_all first | exact rfl | assumption | exact fr_nb (by assumption)) (by (try (show List.set (_ :: _) _ _ = _)); dsimp only [List.set] <;> exact rfl) ?_ | with_reducible refine v_sto_d (by with_unfolding_all first | exact rfl | assumption | exact fr_nb (by assumption)) (by (try (show List.set (_ :: _) _ _ = _)); dsimp only [List.set] <;> exact rfl) ?_))
local macro_rules | `(tactic| infer_instance) => `(tactic| (with_reducible refine g_tg1 ?_; first | with_reducible refine t_triple (by with_unfolding_all first | exact rfl | assumption | exact fr_nb (by assumption)) (by (try (show List.set (_ :: _) _ _ = _)); dsimp only [List.set] <;> exact rfl) (by with_unfolding_all first | exact rfl | assumption | exact fr_nb (by assumption)) (by (try (show List.set (_ :: _) _ _ = _)); dsimp only [List.set] <;> exact rfl) (by with_unfolding_all first | exact rfl | assumption | exact fr_nb (by assumption)) (by (try (show List.set (_ :: _) _ _ = _)); dsimp only [List.set] <;> exact rfl) ?_ | with_reducible refine t_pair (by with_unfolding_all first | exact rfl | assumption | exact fr_nb (by assumption)) (by (try (show List.set (_ :: _) _ _ = _)); dsimp only [List.set] <;> exact rfl) (by with_unfolding_all first | exact rfl | assumption | exact fr_nb (by assumption)) (by (try (show List.set (_ :: _) _ _ = _)); dsimp only [List.set] <;> exact rfl) ?_ | with_reducible refine t_name (by with_unfolding_all first | exact rfl | assumption | exact fr_nb (by assumption)) (by (try (show List.set (_ :: _) _ _ = _)); dsimp only [List.set] <;> exact rfl) ?_))
local macro_rules | `(tactic| infer_instance) => `(tactic| (with_reducible refine g_endq ?_; first | with_reducible refine en_rt ?_ | with_reducible refine en_bk ?_ | with_reducible refine en_ct ?_ | with_reducible refine en_nx ?_))
local macro_rules | `(tactic| infer_instance) => `(tactic| (with_reducible refine g_retq ?_; first | with_reducible refine rq_al (by with_unfolding_all rfl) (by first | (dsimp only [outl, outDV, List.getElem?_cons_succ, List.getElem?_cons_zero] <;> exact rfl) | exact rfl) ?_ | with_reducible refine rq_nl (by first | (dsimp only [outl, outDV, List.getElem?_cons_succ, List.getElem?_cons_zero] <;> exact rfl) | exact rfl) ?_ | with_reducible refine rq_d (by first | (dsimp only [outl, outDV, List.getElem?_cons_succ, List.getElem?_cons_zero] <;> exact rfl) | exact rfl) ?_ | with_reducible refine rq_nx (by first | (dsimp only [outl, outDV, List.getElem?_cons_succ, List.getElem?_cons_zero] <;> exact rfl) | exact rfl) ?_))
local macro_rules | `(tactic| infer_instance) => `(tactic| (with_reducible refine g_opn ?_; first | with_reducible refine n_tupT ?_ | with_reducible refine n_tupL ?_ | with_reducible refine n_lstT ?_ | with_reducible refine n_lstL ?_ | with_reducible refine n_min2 ?_ | with_reducible refine n_max2 ?_ | with_reducible refine n_intB ?_ | with_reducible refine n_intI ?_ | with_reducible refine n_lenT ?_ | with_reducible refine n_lenL ?_))
local macro_rules | `(tactic| infer_instance) => `(tactic| (with_reducible refine g_argq ?_; first | with_reducible refine aq_brw (by with_unfolding_all rfl) ?_ | with_reducible refine aq_own (by with_unfolding_all rfl) ?_ | with_reducible refine aq_nl ?_ | with_reducible refine aq_d ?_ | with_reducible refine aq_nil ?_))
local macro_rules | `(tactic| infer_instance) => `(tactic| (with_reducible refine g_lks ?_; first | with_reducible refine l_cons ?_ | with_reducible refine l_nil ?_))
local macro_rules | `(tactic| infer_instance) => `(tactic| (with_reducible refine g_wpO ?_; first | with_reducible refine v_oS ?_ | with_reducible refine w_oN ?_))
local macro_rules | `(tactic| infer_instance) => `(tactic| (with_reducible refine g_wpA ?_; first | with_reducible refine w_acons ?_ | with_reducible refine w_anil ?_))
local macro_rules | `(tactic| infer_instance) => `(tactic| (with_reducible refine g_wpDs ?_; first | with_reducible refine w_seqI ?_ | with_reducible refine w_range2 ?_ | with_reducible refine w_range1 ?_ | with_reducible refine w_dcons ?_ | with_reducible refine w_dnil ?_))
local macro_rules | `(tactic| infer_instance) => `(tactic| with_reducible refine if_no (by with_unfolding_all rfl) ?_)
local macro_rules | `(tactic| infer_instance) => `(tactic| with_reducible refine if_yes (by with_unfolding_all rfl) ?_)
local macro_rules | `(tactic| infer_instance) => `(tactic| with_reducible refine isB_ok ?_)
local macro_rules | `(tactic| infer_instance) => `(tactic| (with_reducible refine g_wpT ?_; first | with_reducible refine w_yes ?_ | with_reducible refine w_Not ?_ | with_reducible refine w_Or ?_ | with_reducible refine w_And ?_ | with_reducible refine v_B ?_))
local macro_rules | `(tactic| infer_instance) => `(tactic| with_reducible refine w_F ?_)
local macro_rules | `(tactic| infer_instance) => `(tactic| (with_reducible refine g_fz1 ?_; first | with_reducible refine v_fz_ownM (by with_unfolding_all rfl) (by (try (show List.set (_ :: _) _ _ = _)); dsimp only [List.set] <;> exact rfl) ?_ | with_reducible refine v_fz_ownL (by with_unfolding_all rfl) (by (try (show List.set (_ :: _) _ _ = _)); dsimp only [List.set] <;> exact rfl) ?_ | with_reducible refine fz_nlM' ?_ | with_reducible refine fz_nlL' ?_ | with_reducible refine fz_d' ?_))
local macro_rules | `(tactic| infer_instance) => `(tactic| (with_reducible refine g_op2 ?_; first | with_reducible refine o_eqS_same ?_ | with_reducible refine o_notinSS ?_ | with_reducible refine o_inSS ?_ | with_reducible refine o_neI ?_ | with_reducible refine o_eqI ?_ | with_reducible refine o_neS_same ?_ | with_reducible refine o_neS ?_ | with_reducible refine o_eqS ?_ | with_reducible refine o_mod (by with_unfolding_all decide) ?_ | with_reducible refine o_pow (by with_unfolding_all decide) ?_ | with_reducible refine o_ixT (by with_unfolding_all rfl) ?_ | with_reducible refine o_ixL (by with_unfolding_all rfl) ?_ | with_reducible refine o_ge ?_ | with_reducible refine o_gt ?_ | with_reducible refine o_le ?_ | with_reducible refine o_lt ?_ | with_reducible refine o_sub ?_ | with_reducible refine o_addI ?_))
local macro_rules | `(tactic| infer_instance) => `(tactic| (with_reducible refine g_lkq ?_; first | with_reducible refine v_lk_brwM (by with_unfolding_all rfl) ?_ | with_reducible refine v_lk_ownM (by with_unfolding_all rfl) ?_ | with_reducible refine v_lk_nlM ?_ | with_reducible refine lk_brwL (by with_unfolding_all rfl) ?_ | with_reducible refine lk_ownL (by with_unfolding_all rfl) ?_ | with_reducible refine lk_nlL ?_ | with_reducible refine lk_d ?_))
local macro_rules | `(tactic| infer_instance) => `(tactic| (with_reducible refine g_wpS ?_; first | with_reducible refine v_parN ?_ | with_reducible refine v_par3 ?_ | with_reducible refine v_par2 ?_ | with_reducible refine w_put ?_ | with_reducible refine w_asg ?_ | with_reducible refine w_set ?_ | with_reducible refine w_ifS ?_ | with_reducible refine w_retN ?_ | with_reducible refine w_ret ?_ | with_reducible refine w_drop ?_ | with_reducible refine w_ct ?_ | with_reducible refine w_bk ?_ | with_reducible refine w_nx ?_ | with_reducible refine w_seq ?_))
local macro_rules | `(tactic| infer_instance) => `(tactic| (with_reducible refine g_wpE ?_; first | with_reducible refine w_of ?_ | with_reducible refine v_dic0 ?_ | with_reducible refine v_mq ?_ | with_reducible refine v_chain ?_ | with_reducible refine v_fn (by with_unfolding_all rfl) (by with_unfolding_all rfl) (by dsimp only [Nat.reduceSub, List.replicate, List.cons_append, List.nil_append] <;> exact rfl) ?_ | with_reducible refine v_mtL (by with_unfolding_all rfl) ?_ | with_reducible refine v_callK ?_ | with_reducible refine v_call ?_ | with_reducible refine w_NotV ?_ | with_reducible refine w_OrV ?_ | with_reducible refine w_AndV ?_ | with_reducible refine w_sl ?_ | with_reducible refine w_varB (by with_unfolding_all rfl) ?_ | with_reducible refine w_varO (by with_unfolding_all rfl) ?_ | with_reducible refine w_var (by with_unfolding_all rfl) ?_ | with_reducible refine v_tup ?_ | with_reducible refine v_lst ?_ | with_reducible refine w_If ?_ | with_reducible refine w_c ?_ | with_reducible refine w_m2 ?_ | with_reducible refine w_m1 ?_ | with_reducible refine w_callN ?_))
def nxt (n j : Nat) : Nat := if j + 1 = n then 0 else j + 1
theorem cyc_len {α : Type} {w : List α} : (cyc w).length = w.length := by
  unfold cyc
  rw [List.length_zip, List.length_append, List.length_drop, List.length_take]
  omega
theorem cyc_range {w : List Str} : cyc w = (List.range w.length).map fun j => (w.getD j Str.empty, w.getD (nxt w.length j) Str.empty) := by
  refine List.ext_getElem? fun j => ?_
  by_cases hj : j < w.length
  · have h1 : w[j]? = some (w.getD j Str.empty) := getD_of hj
    have h2 : (w.drop 1 ++ w.take 1)[j]? = some (w.getD (nxt w.length j) Str.empty) := by
      rw [rot_at hj]
      unfold nxt
      by_cases e : j + 1 = w.length
      · rw [if_pos e, if_pos e]
        exact getD_of (by omega)
      · rw [if_neg e, if_neg e]
        exact getD_of (by omega)
    rw [List.getElem?_map, List.getElem?_range hj]
    exact List.getElem?_zip_eq_some.mpr ⟨h1, h2⟩
  · rw [List.getElem?_eq_none (by rw [cyc_len]; omega), List.getElem?_eq_none (by rw [List.length_map, List.length_range]; omega)]
section
variable {ns : List Str} {rs : List (Str × Str)}
def rgS (rs : List (Str × Str)) (ss : List Str) : Bool := decide (3 ≤ ss.length) && (decide ss.Nodup && (cyc ss).all fun p => adj rs p.1 p.2)
def rgD (ns : List Str) (rs : List (Str × Str)) : D → Bool
  | .tuple es => es.all (inB ns) && (match strsOf es with
    | some ss => rgS rs ss
    | none => false)
  | _ => false
theorem rgD_strs {ss : List Str} (h : ∀ z ∈ ss, z ∈ ns) : rgD ns rs (.tuple (ss.map PyData.str)) = rgS rs ss := by
  show ((ss.map PyData.str).all (inB ns) && (match strsOf (ss.map PyData.str) with | some ss => rgS rs ss | none => false)) = _
  rw [inB_all h, PL.strs_map]
  rfl
theorem Rng.b {w : List Str} (h : Rng ns rs w) : rgD ns rs (ordD w) = true := by
  rw [rgD_strs h.sub]
  unfold rgS
  rw [decide_eq_true h.l3, decide_eq_true h.nd, List.all_eq_true.mpr h.ad]
  rfl
end

/-! ### V76: steps forward, moved and turned -/
section
variable {ns : List Str} {rs : List (Str × Str)} {ord w : List Str}
theorem Rng.at_ (h : Rng ns rs w) {j : Nat} (hj : j < w.length) : adj rs (w.getD j Str.empty) (w.getD (nxt w.length j) Str.empty) = true :=
  h.ad _ (by rw [cyc_range]; exact List.mem_map.mpr ⟨j, List.mem_range.mpr hj, rfl⟩)
end
end PK

namespace PK
open PySem PySem.Spec PyProof.Rows L2 PL
variable [TheW]
local macro_rules | `(tactic| infer_instance) => `(tactic| dsimp only)
local macro_rules | `(tactic| infer_instance) => `(tactic| with_reducible refine le_ok (by with_unfolding_all rfl) ?_)
local macro_rules | `(tactic| infer_instance) => `(tactic| with_reducible refine pick_ok (by with_unfolding_all rfl) (by dsimp only [pick, List.filterMap, List.getElem?_cons_succ, List.getElem?_cons_zero] <;> exact rfl) ?_)
local macro_rules | `(tactic| infer_instance) => `(tactic| with_reducible refine free_ok (by with_unfolding_all rfl) ?_)
local macro_rules | `(tactic| infer_instance) => `(tactic| with_reducible refine ty_ok (by with_unfolding_all rfl) ?_)
local macro_rules | `(tactic| infer_instance) => `(tactic| (with_reducible refine g_chq ?_; first | with_reducible refine ch_lt ?_ | with_reducible refine ch_le ?_))
local macro_rules | `(tactic| infer_instance) => `(tactic| (with_reducible refine g_sl1 ?_; first | with_reducible refine s1_T ?_ | with_reducible refine s1_L ?_))
local macro_rules | `(tactic| infer_instance) => `(tactic| (with_reducible refine g_op1 ?_; first | with_reducible refine v_revT ?_ | with_reducible refine v_revL ?_ | with_reducible refine o_isi_t (by with_unfolding_all rfl) ?_ | with_reducible refine o_isi_f (by with_unfolding_all rfl) ?_))
local macro_rules | `(tactic| infer_instance) => `(tactic| (with_reducible refine g_sq1 ?_; first | with_reducible refine sq_S ?_ | with_reducible refine sq_T ?_ | with_reducible refine sq_L ?_))
local macro_rules | `(tactic| infer_instance) => `(tactic| with_reducible refine isI_ok ?_)
local macro_rules | `(tactic| infer_instance) => `(tactic| (with_reducible refine g_mtk ?_; first | with_reducible refine v_appB (by with_unfolding_all rfl) (by simp only [List.length_map, List.length_append, List.length_cons, List.length_nil, List.length_range, List.length_take, sizeLine_eq]; omega) (by (try (show List.set (_ :: _) _ _ = _)); dsimp only [List.set] <;> exact rfl) ?_ | with_reducible refine v_app (by with_unfolding_all rfl) (by simp only [List.length_map, List.length_append, List.length_cons, List.length_nil, List.length_range, List.length_take, sizeLine_eq]; omega) (by (try (show List.set (_ :: _) _ _ = _)); dsimp only [List.set] <;> exact rfl) ?_))
local macro_rules | `(tactic| infer_instance) => `(tactic| (with_reducible refine g_ret1 ?_; first | with_reducible refine ret_nl (by first | (dsimp only [pbs, setOc, List.getElem?_cons_succ, List.getElem?_cons_zero, List.set] <;> exact rfl) | exact rfl) ?_ | with_reducible refine ret_ob (by first | (dsimp only [pbs, setOc, List.getElem?_cons_succ, List.getElem?_cons_zero, List.set] <;> exact rfl) | exact rfl) ?_ | with_reducible refine ret_d (by first | (dsimp only [pbs, setOc, List.getElem?_cons_succ, List.getElem?_cons_zero, List.set] <;> exact rfl) | exact rfl) ?_))
local macro_rules | `(tactic| infer_instance) => `(tactic| with_reducible refine callq_ok (by with_unfolding_all rfl) ?_)
local macro_rules | `(tactic| infer_instance) => `(tactic| (with_reducible refine g_stoAll ?_; first | with_reducible refine sa_cons (by with_unfolding_all rfl) ?_ | with_reducible refine sa_nil ?_))
local macro_rules | `(tactic| infer_instance) => `(tactic| (with_reducible refine g_sto ?_; first | with_reducible refine v_sto_al (by with_unfolding_all rfl) (by (try (show List.set (_ :: _) _ _ = _)); dsimp only [List.set] <;> exact rfl) (by with_unfolding_all first | exact rfl | assumption | exact fr_nb (by assumption)) (by (try (show List.set (_ :: _) _ _ = _)); dsimp only [List.set] <;> exact rfl) ?_ | with_reducible refine v_sto_nl (by with_unfolding_all first | exact rfl | assumption | exact fr_nb (by assumption)) (by (try (show List.set (_ :: _) _ _ = _)); dsimp only [List.set] <;> exact rfl) ?_ | with_reducible refine v_sto_d (by with_unfolding_all first | exact rfl | assumption | exact fr_nb (by assumption)) (by (try (show List.set (_ :: _) _ _ = _)); dsimp only [List.set] <;> exact rfl) ?_ | with_reducible refine v_sto_ob (by with_unfolding_all first | exact rfl | assumption | exact fr_nb (by assumption)) (by (try (show List.set (_ :: _) _ _ = _)); dsimp only [List.set] <;> exact rfl) ?_))
local macro_rules | `(tactic| infer_instance) => `(tactic| (with_reducible refine g_tg1 ?_; first | with_reducible refine t_triple (by with_unfolding_all first | exact rfl | assumption | exact fr_nb (by assumption)) (by (try (show List.set (_ :: _) _ _ = _)); dsimp only [List.set] <;> exact rfl) (by with_unfolding_all first | exact rfl | assumption | exact fr_nb (by assumption)) (by (try (show List.set (_ :: _) _ _ = _)); dsimp only [List.set] <;> exact rfl) (by with_unfolding_all first | exact rfl | assumption | exact fr_nb (by assumption)) (by (try (show List.set (_ :: _) _ _ = _)); dsimp only [List.set] <;> exact rfl) ?_ | with_reducible refine t_pair (by with_unfolding_all first | exact rfl | assumption | exact fr_nb (by assumption)) (by (try (show List.set (_ :: _) _ _ = _)); dsimp only [List.set] <;> exact rfl) (by with_unfolding_all first | exact rfl | assumption | exact fr_nb (by assumption)) (by (try (show List.set (_ :: _) _ _ = _)); dsimp only [List.set] <;> exact rfl) ?_ | with_reducible refine t_name (by with_unfolding_all first | exact rfl | assumption | exact fr_nb (by assumption)) (by (try (show List.set (_ :: _) _ _ = _)); dsimp only [List.set] <;> exact rfl) ?_))
local macro_rules | `(tactic| infer_instance) => `(tactic| (with_reducible refine g_endq ?_; first | with_reducible refine en_rt ?_ | with_reducible refine en_bk ?_ | with_reducible refine en_ct ?_ | with_reducible refine en_nx ?_))
local macro_rules | `(tactic| infer_instance) => `(tactic| (with_reducible refine g_retq ?_; first | with_reducible refine rq_al (by with_unfolding_all rfl) (by first | (dsimp only [outl, outDV, List.getElem?_cons_succ, List.getElem?_cons_zero] <;> exact rfl) | exact rfl) ?_ | with_reducible refine rq_nl (by first | (dsimp only [outl, outDV, List.getElem?_cons_succ, List.getElem?_cons_zero] <;> exact rfl) | exact rfl) ?_ | with_reducible refine rq_ob (by first | (dsimp only [outl, outDV, List.getElem?_cons_succ, List.getElem?_cons_zero] <;> exact rfl) | exact rfl) ?_ | with_reducible refine rq_d (by first | (dsimp only [outl, outDV, List.getElem?_cons_succ, List.getElem?_cons_zero] <;> exact rfl) | exact rfl) ?_ | with_reducible refine rq_nx (by first | (dsimp only [outl, outDV, List.getElem?_cons_succ, List.getElem?_cons_zero] <;> exact rfl) | exact rfl) ?_))
local macro_rules | `(tactic| infer_instance) => `(tactic| (with_reducible refine g_opn ?_; first | with_reducible refine n_tupT ?_ | with_reducible refine n_tupL ?_ | with_reducible refine n_lstT ?_ | with_reducible refine n_lstL ?_ | with_reducible refine n_min2 ?_ | with_reducible refine n_max2 ?_ | with_reducible refine n_intB ?_ | with_reducible refine n_intI ?_ | with_reducible refine n_lenT ?_ | with_reducible refine n_lenL ?_))
local macro_rules | `(tactic| infer_instance) => `(tactic| (with_reducible refine g_argq ?_; first | with_reducible refine aq_brw (by with_unfolding_all rfl) ?_ | with_reducible refine aq_own (by with_unfolding_all rfl) ?_ | with_reducible refine aq_nl ?_ | with_reducible refine aq_ob ?_ | with_reducible refine aq_d ?_ | with_reducible refine aq_nil ?_))
local macro_rules | `(tactic| infer_instance) => `(tactic| (with_reducible refine g_lks ?_; first | with_reducible refine l_cons ?_ | with_reducible refine l_nil ?_))
local macro_rules | `(tactic| infer_instance) => `(tactic| (with_reducible refine g_wpO ?_; first | with_reducible refine v_oS ?_ | with_reducible refine w_oN ?_))
local macro_rules | `(tactic| infer_instance) => `(tactic| (with_reducible refine g_wpA ?_; first | with_reducible refine w_acons ?_ | with_reducible refine w_anil ?_))
local macro_rules | `(tactic| infer_instance) => `(tactic| (with_reducible refine g_wpDs ?_; first | with_reducible refine w_seqI ?_ | with_reducible refine w_range2 ?_ | with_reducible refine w_range1 ?_ | with_reducible refine w_dcons ?_ | with_reducible refine w_dnil ?_))
local macro_rules | `(tactic| infer_instance) => `(tactic| with_reducible refine if_no (by with_unfolding_all rfl) ?_)
local macro_rules | `(tactic| infer_instance) => `(tactic| with_reducible refine if_yes (by with_unfolding_all rfl) ?_)
local macro_rules | `(tactic| infer_instance) => `(tactic| with_reducible refine isB_ok ?_)
local macro_rules | `(tactic| infer_instance) => `(tactic| (with_reducible refine g_wpT ?_; first | with_reducible refine w_yes ?_ | with_reducible refine w_Not ?_ | with_reducible refine w_Or ?_ | with_reducible refine w_And ?_ | with_reducible refine v_B ?_))
local macro_rules | `(tactic| infer_instance) => `(tactic| with_reducible refine w_F ?_)
local macro_rules | `(tactic| infer_instance) => `(tactic| (with_reducible refine g_fz1 ?_; first | with_reducible refine v_fz_ownM (by with_unfolding_all rfl) (by (try (show List.set (_ :: _) _ _ = _)); dsimp only [List.set] <;> exact rfl) ?_ | with_reducible refine v_fz_ownL (by with_unfolding_all rfl) (by (try (show List.set (_ :: _) _ _ = _)); dsimp only [List.set] <;> exact rfl) ?_ | with_reducible refine fz_nlM' ?_ | with_reducible refine fz_nlL' ?_ | with_reducible refine fz_d' ?_))
local macro_rules | `(tactic| infer_instance) => `(tactic| (with_reducible refine g_op2 ?_; first | with_reducible refine o_eqS_same ?_ | with_reducible refine o_notinSS ?_ | with_reducible refine o_inSS ?_ | with_reducible refine o_neI ?_ | with_reducible refine o_eqI ?_ | with_reducible refine o_neS_same ?_ | with_reducible refine o_neS ?_ | with_reducible refine o_eqS ?_ | with_reducible refine o_mod (by with_unfolding_all decide) ?_ | with_reducible refine o_pow (by with_unfolding_all decide) ?_ | with_reducible refine o_ixT (by with_unfolding_all rfl) ?_ | with_reducible refine o_ixL (by with_unfolding_all rfl) ?_ | with_reducible refine o_ge ?_ | with_reducible refine o_gt ?_ | with_reducible refine o_le ?_ | with_reducible refine o_lt ?_ | with_reducible refine o_sub ?_ | with_reducible refine o_addI ?_))
local macro_rules | `(tactic| infer_instance) => `(tactic| (with_reducible refine g_lkq ?_; first | with_reducible refine v_lk_brwM (by with_unfolding_all rfl) ?_ | with_reducible refine v_lk_ownM (by with_unfolding_all rfl) ?_ | with_reducible refine v_lk_nlM ?_ | with_reducible refine lk_brwL (by with_unfolding_all rfl) ?_ | with_reducible refine lk_ownL (by with_unfolding_all rfl) ?_ | with_reducible refine lk_nlL ?_ | with_reducible refine lk_d ?_))
local macro_rules | `(tactic| infer_instance) => `(tactic| (with_reducible refine g_wpS ?_; first | with_reducible refine v_parN ?_ | with_reducible refine v_par3 ?_ | with_reducible refine v_par2 ?_ | with_reducible refine w_put ?_ | with_reducible refine w_asg ?_ | with_reducible refine w_set ?_ | with_reducible refine w_ifS ?_ | with_reducible refine w_retN ?_ | with_reducible refine w_ret ?_ | with_reducible refine w_drop ?_ | with_reducible refine w_ct ?_ | with_reducible refine w_bk ?_ | with_reducible refine w_nx ?_ | with_reducible refine w_seq ?_))
local macro_rules | `(tactic| infer_instance) => `(tactic| (with_reducible refine g_wpE ?_; first | with_reducible refine w_of ?_ | with_reducible refine v_dic0 ?_ | with_reducible refine v_mq ?_ | with_reducible refine v_chain ?_ | with_reducible refine v_fn (by with_unfolding_all rfl) (by with_unfolding_all rfl) (by dsimp only [Nat.reduceSub, List.replicate, List.cons_append, List.nil_append] <;> exact rfl) ?_ | with_reducible refine v_mtL (by with_unfolding_all rfl) ?_ | with_reducible refine v_callK ?_ | with_reducible refine v_call ?_ | with_reducible refine w_NotV ?_ | with_reducible refine w_OrV ?_ | with_reducible refine w_AndV ?_ | with_reducible refine w_sl ?_ | with_reducible refine w_varB (by with_unfolding_all rfl) ?_ | with_reducible refine w_varO (by with_unfolding_all rfl) ?_ | with_reducible refine w_var (by with_unfolding_all rfl) ?_ | with_reducible refine w_varOb (by with_unfolding_all rfl) ?_ | with_reducible refine w_fld ?_ | with_reducible refine w_meth ?_ | with_reducible refine w_make ?_ | with_reducible refine v_tup ?_ | with_reducible refine v_lst ?_ | with_reducible refine w_If ?_ | with_reducible refine w_c ?_ | with_reducible refine w_m2 ?_ | with_reducible refine w_m1 ?_ | with_reducible refine w_callN ?_))
local macro_rules | `(tactic| infer_instance) => `(tactic| with_reducible refine fq_ok (by with_unfolding_all rfl) ?_)
local macro_rules | `(tactic| infer_instance) => `(tactic| with_reducible refine mq_ok (by with_unfolding_all rfl) ?_)
local macro_rules | `(tactic| infer_instance) => `(tactic| with_reducible refine nd_ok (by with_unfolding_all rfl) ?_)
local macro_rules | `(tactic| infer_instance) => `(tactic| (with_reducible refine g_xret1 ?_; first | with_reducible refine xc_d (by first | (dsimp only [pbs, setOc, List.getElem?_cons_succ, List.getElem?_cons_zero, List.set] <;> exact rfl) | exact rfl) ?_ | with_reducible refine xc_nl (by first | (dsimp only [pbs, setOc, List.getElem?_cons_succ, List.getElem?_cons_zero, List.set] <;> exact rfl) | exact rfl) ?_ | with_reducible refine xc_ob (by first | (dsimp only [pbs, setOc, List.getElem?_cons_succ, List.getElem?_cons_zero, List.set] <;> exact rfl) | exact rfl) ?_ | with_reducible refine xc_ex (by first | (dsimp only [pbs, setOc, List.getElem?_cons_succ, List.getElem?_cons_zero, List.set] <;> exact rfl) | exact rfl) ?_))
local macro_rules | `(tactic| infer_instance) => `(tactic| (with_reducible refine g_xretq ?_; first | with_reducible refine xq_ex (by first | (dsimp only [outl, outDV, List.getElem?_cons_succ, List.getElem?_cons_zero] <;> exact rfl) | exact rfl) ?_ | with_reducible refine xq_o ?_))
local macro_rules | `(tactic| infer_instance) => `(tactic| (with_reducible refine g_xsq ?_; first | with_reducible refine xs_nx ?_ | with_reducible refine xs_rt ?_ | with_reducible refine xs_ex ?_))
local macro_rules | `(tactic| infer_instance) => `(tactic| (with_reducible refine g_xdq ?_; first | with_reducible refine xd_ok ?_ | with_reducible refine xd_ex ?_))
local macro_rules | `(tactic| infer_instance) => `(tactic| (with_reducible refine g_xrq ?_; first | with_reducible refine xr_ok ?_ | with_reducible refine xr_ex ?_))
local macro_rules | `(tactic| infer_instance) => `(tactic| (with_reducible refine g_xsetq ?_; first | with_reducible refine xst_ok ?_ | with_reducible refine xst_ex ?_))
local macro_rules | `(tactic| infer_instance) => `(tactic| (with_reducible refine g_xtupq ?_; first | with_reducible refine xt_ok ?_ | with_reducible refine xt_ex ?_))
local macro_rules | `(tactic| infer_instance) => `(tactic| (with_reducible refine g_xopq ?_; first | with_reducible refine xo_ok ?_ | with_reducible refine xo_ex ?_))
local macro_rules | `(tactic| infer_instance) => `(tactic| (with_reducible refine g_tryq ?_; first | with_reducible refine tr_o ?_ | with_reducible refine tr_ex (by with_unfolding_all rfl) (by with_unfolding_all rfl) (by with_unfolding_all rfl) (by (try (show List.set (_ :: _) _ _ = _)); dsimp only [List.set] <;> exact rfl) ?_))
local macro_rules | `(tactic| infer_instance) => `(tactic| (with_reducible refine g_wpSX ?_; first | with_reducible refine wx_seq ?_ | with_reducible refine wx_if ?_ | with_reducible refine wx_raise ?_ | with_reducible refine wx_drop ?_ | with_reducible refine wx_ret ?_ | with_reducible refine wx_set ?_ | with_reducible refine wx_lift ?_))
local macro_rules | `(tactic| infer_instance) => `(tactic| (with_reducible refine g_wpEX ?_; first | with_reducible refine wx_fn (by with_unfolding_all rfl) (by with_unfolding_all rfl) (by dsimp only [Nat.reduceSub, List.replicate, List.cons_append, List.nil_append] <;> exact rfl) ?_ | with_reducible refine wx_callK ?_ | with_reducible refine wx_call ?_ | with_reducible refine wx_tup1 ?_ | with_reducible refine wx_ifE ?_ | with_reducible refine wx_op2 ?_ | with_reducible refine wx_liftE ?_))
local macro_rules | `(tactic| infer_instance) => `(tactic| with_reducible refine xcallq_ok (by with_unfolding_all rfl) ?_)
local macro_rules | `(tactic| infer_instance) => `(tactic| with_reducible refine w_isE (by with_unfolding_all rfl) ?_)
local macro_rules | `(tactic| infer_instance) => `(tactic| with_reducible refine wx_try ?_)
local macro_rules | `(tactic| infer_instance) => `(tactic| (with_reducible refine g_tend ?_; with_reducible refine te_ok (by with_unfolding_all rfl) (by with_unfolding_all rfl) (by (try (show List.set (_ :: _) _ _ = _)); dsimp only [List.set] <;> exact rfl) ?_))
/-! ### V77: rings asked, refused, bent -/
section
variable {ns : List Str} {rs : List (Str × Str)} {ord w : List Str} {n : Nat} {a b c : Int}
end
end PK

namespace PK
open PySem PySem.Spec PyProof.Rows L2 PL
variable [TheW]
local macro_rules | `(tactic| infer_instance) => `(tactic| dsimp only)
local macro_rules | `(tactic| infer_instance) => `(tactic| with_reducible refine le_ok (by with_unfolding_all rfl) ?_)
local macro_rules | `(tactic| infer_instance) => `(tactic| with_reducible refine pick_ok (by with_unfolding_all rfl) (by dsimp only [pick, List.filterMap, List.getElem?_cons_succ, List.getElem?_cons_zero] <;> exact rfl) ?_)
local macro_rules | `(tactic| infer_instance) => `(tactic| with_reducible refine free_ok (by with_unfolding_all rfl) ?_)
local macro_rules | `(tactic| infer_instance) => `(tactic| with_reducible refine ty_ok (by with_unfolding_all rfl) ?_)
local macro_rules | `(tactic| infer_instance) => `(tactic| (with_reducible refine g_chq ?_; first | with_reducible refine ch_lt ?_ | with_reducible refine ch_le ?_))
local macro_rules | `(tactic| infer_instance) => `(tactic| (with_reducible refine g_sl1 ?_; first | with_reducible refine s1_T ?_ | with_reducible refine s1_L ?_))
local macro_rules | `(tactic| infer_instance) => `(tactic| (with_reducible refine g_op1 ?_; first | with_reducible refine v_revT ?_ | with_reducible refine v_revL ?_ | with_reducible refine o_isi_t (by with_unfolding_all rfl) ?_ | with_reducible refine o_isi_f (by with_unfolding_all rfl) ?_))
local macro_rules | `(tactic| infer_instance) => `(tactic| (with_reducible refine g_sq1 ?_; first | with_reducible refine sq_S ?_ | with_reducible refine sq_T ?_ | with_reducible refine sq_L ?_))
local macro_rules | `(tactic| infer_instance) => `(tactic| with_reducible refine isI_ok ?_)
local macro_rules | `(tactic| infer_instance) => `(tactic| (with_reducible refine g_mtk ?_; first | with_reducible refine v_appB (by with_unfolding_all rfl) (by simp only [List.length_map, List.length_append, List.length_cons, List.length_nil, List.length_range, List.length_take, sizeLine_eq]; omega) (by (try (show List.set (_ :: _) _ _ = _)); dsimp only [List.set] <;> exact rfl) ?_ | with_reducible refine v_app (by with_unfolding_all rfl) (by simp only [List.length_map, List.length_append, List.length_cons, List.length_nil, List.length_range, List.length_take, sizeLine_eq]; omega) (by (try (show List.set (_ :: _) _ _ = _)); dsimp only [List.set] <;> exact rfl) ?_))
local macro_rules | `(tactic| infer_instance) => `(tactic| (with_reducible refine g_ret1 ?_; first | with_reducible refine ret_nl (by first | (dsimp only [pbs, setOc, List.getElem?_cons_succ, List.getElem?_cons_zero, List.set] <;> exact rfl) | exact rfl) ?_ | with_reducible refine ret_d (by first | (dsimp only [pbs, setOc, List.getElem?_cons_succ, List.getElem?_cons_zero, List.set] <;> exact rfl) | exact rfl) ?_))
local macro_rules | `(tactic| infer_instance) => `(tactic| with_reducible refine callq_ok (by with_unfolding_all rfl) ?_)
local macro_rules | `(tactic| infer_instance) => `(tactic| (with_reducible refine g_stoAll ?_; first | with_reducible refine sa_cons (by with_unfolding_all rfl) ?_ | with_reducible refine sa_nil ?_))
local macro_rules | `(tactic| infer_instance) => `(tactic| (with_reducible refine g_sto ?_; first | with_reducible refine v_sto_al (by with_unfolding_all rfl) (by (try (show List.set (_ :: _) _ _ = _)); dsimp only [List.set] <;> exact rfl) (by with_unfolding_all first | exact rfl | assumption | exact fr_nb (by assumption)) (by (try (show List.set (_ :: _) _ _ = _)); dsimp only [List.set] <;> exact rfl) ?_ | with_reducible refine v_sto_nl (by with_unfolding_all first | exact rfl | assumption | exact fr_nb (by assumption)) (by (try (show List.set (_ :: _) _ _ = _)); dsimp only [List.set] <;> exact rfl) ?_ | with_reducible refine v_sto_d (by with_unfolding_all first | exact rfl | assumption | exact fr_nb (by assumption)) (by (try (show List.set (_ :: _) _ _ = _)); dsimp only [List.set] <;> exact rfl) ?_))
local macro_rules | `(tactic| infer_instance) => `(tactic| (with_reducible refine g_tg1 ?_; first | with_reducible refine t_triple (by with_unfolding_all first | exact rfl | assumption | exact fr_nb (by assumption)) (by (try (show List.set (_ :: _) _ _ = _)); dsimp only [List.set] <;> exact rfl) (by with_unfolding_all first | exact rfl | assumption | exact fr_nb (by assumption)) (by (try (show List.set (_ :: _) _ _ = _)); dsimp only [List.set] <;> exact rfl) (by with_unfolding_all first | exact rfl | assumption | exact fr_nb (by assumption)) (by (try (show List.set (_ :: _) _ _ = _)); dsimp only [List.set] <;> exact rfl) ?_ | with_reducible refine t_pair (by with_unfolding_all first | exact rfl | assumption | exact fr_nb (by assumption)) (by (try (show List.set (_ :: _) _ _ = _)); dsimp only [List.set] <;> exact rfl) (by with_unfolding_all first | exact rfl | assumption | exact fr_nb (by assumption)) (by (try (show List.set (_ :: _) _ _ = _)); dsimp only [List.set] <;> exact rfl) ?_ | with_reducible refine t_name (by with_unfolding_all first | exact rfl | assumption | exact fr_nb (by assumption)) (by (try (show List.set (_ :: _) _ _ = _)); dsimp only [List.set] <;> exact rfl) ?_))
local macro_rules | `(tactic| infer_instance) => `(tactic| (with_reducible refine g_endq ?_; first | with_reducible refine en_rt ?_ | with_reducible refine en_bk ?_ | with_reducible refine en_ct ?_ | with_reducible refine en_nx ?_))
local macro_rules | `(tactic| infer_instance) => `(tactic| (with_reducible refine g_retq ?_; first | with_reducible refine rq_al (by with_unfolding_all rfl) (by first | (dsimp only [outl, outDV, List.getElem?_cons_succ, List.getElem?_cons_zero] <;> exact rfl) | exact rfl) ?_ | with_reducible refine rq_nl (by first | (dsimp only [outl, outDV, List.getElem?_cons_succ, List.getElem?_cons_zero] <;> exact rfl) | exact rfl) ?_ | with_reducible refine rq_d (by first | (dsimp only [outl, outDV, List.getElem?_cons_succ, List.getElem?_cons_zero] <;> exact rfl) | exact rfl) ?_ | with_reducible refine rq_nx (by first | (dsimp only [outl, outDV, List.getElem?_cons_succ, List.getElem?_cons_zero] <;> exact rfl) | exact rfl) ?_))
local macro_rules | `(tactic| infer_instance) => `(tactic| (with_reducible refine g_opn ?_; first | with_reducible refine n_tupT ?_ | with_reducible refine n_tupL ?_ | with_reducible refine n_lstT ?_ | with_reducible refine n_lstL ?_ | with_reducible refine n_min2 ?_ | with_reducible refine n_max2 ?_ | with_reducible refine n_intB ?_ | with_reducible refine n_intI ?_ | with_reducible refine n_lenT ?_ | with_reducible refine n_lenL ?_))
local macro_rules | `(tactic| infer_instance) => `(tactic| (with_reducible refine g_argq ?_; first | with_reducible refine aq_brw (by with_unfolding_all rfl) ?_ | with_reducible refine aq_own (by with_unfolding_all rfl) ?_ | with_reducible refine aq_nl ?_ | with_reducible refine aq_d ?_ | with_reducible refine aq_nil ?_))
local macro_rules | `(tactic| infer_instance) => `(tactic| (with_reducible refine g_lks ?_; first | with_reducible refine l_cons ?_ | with_reducible refine l_nil ?_))
local macro_rules | `(tactic| infer_instance) => `(tactic| (with_reducible refine g_wpO ?_; first | with_reducible refine v_oS ?_ | with_reducible refine w_oN ?_))
local macro_rules | `(tactic| infer_instance) => `(tactic| (with_reducible refine g_wpA ?_; first | with_reducible refine w_acons ?_ | with_reducible refine w_anil ?_))
local macro_rules | `(tactic| infer_instance) => `(tactic| (with_reducible refine g_wpDs ?_; first | with_reducible refine w_seqI ?_ | with_reducible refine w_range2 ?_ | with_reducible refine w_range1 ?_ | with_reducible refine w_dcons ?_ | with_reducible refine w_dnil ?_))
local macro_rules | `(tactic| infer_instance) => `(tactic| with_reducible refine if_no (by with_unfolding_all rfl) ?_)
local macro_rules | `(tactic| infer_instance) => `(tactic| with_reducible refine if_yes (by with_unfolding_all rfl) ?_)
local macro_rules | `(tactic| infer_instance) => `(tactic| with_reducible refine isB_ok ?_)
local macro_rules | `(tactic| infer_instance) => `(tactic| (with_reducible refine g_wpT ?_; first | with_reducible refine w_yes ?_ | with_reducible refine w_Not ?_ | with_reducible refine w_Or ?_ | with_reducible refine w_And ?_ | with_reducible refine v_B ?_))
local macro_rules | `(tactic| infer_instance) => `(tactic| with_reducible refine w_F ?_)
local macro_rules | `(tactic| infer_instance) => `(tactic| (with_reducible refine g_fz1 ?_; first | with_reducible refine v_fz_ownM (by with_unfolding_all rfl) (by (try (show List.set (_ :: _) _ _ = _)); dsimp only [List.set] <;> exact rfl) ?_ | with_reducible refine v_fz_ownL (by with_unfolding_all rfl) (by (try (show List.set (_ :: _) _ _ = _)); dsimp only [List.set] <;> exact rfl) ?_ | with_reducible refine fz_nlM' ?_ | with_reducible refine fz_nlL' ?_ | with_reducible refine fz_d' ?_))
local macro_rules | `(tactic| infer_instance) => `(tactic| (with_reducible refine g_op2 ?_; first | with_reducible refine o_eqS_same ?_ | with_reducible refine o_notinSS ?_ | with_reducible refine o_inSS ?_ | with_reducible refine o_neI ?_ | with_reducible refine o_eqI ?_ | with_reducible refine o_neS_same ?_ | with_reducible refine o_neS ?_ | with_reducible refine o_eqS ?_ | with_reducible refine o_mod (by with_unfolding_all decide) ?_ | with_reducible refine o_pow (by with_unfolding_all decide) ?_ | with_reducible refine o_ixT (by with_unfolding_all rfl) ?_ | with_reducible refine o_ixL (by with_unfolding_all rfl) ?_ | with_reducible refine o_ge ?_ | with_reducible refine o_gt ?_ | with_reducible refine o_le ?_ | with_reducible refine o_lt ?_ | with_reducible refine o_sub ?_ | with_reducible refine o_addI ?_))
local macro_rules | `(tactic| infer_instance) => `(tactic| (with_reducible refine g_lkq ?_; first | with_reducible refine v_lk_brwM (by with_unfolding_all rfl) ?_ | with_reducible refine v_lk_ownM (by with_unfolding_all rfl) ?_ | with_reducible refine v_lk_nlM ?_ | with_reducible refine lk_brwL (by with_unfolding_all rfl) ?_ | with_reducible refine lk_ownL (by with_unfolding_all rfl) ?_ | with_reducible refine lk_nlL ?_ | with_reducible refine lk_d ?_))
local macro_rules | `(tactic| infer_instance) => `(tactic| (with_reducible refine g_wpS ?_; first | with_reducible refine v_parN ?_ | with_reducible refine v_par3 ?_ | with_reducible refine v_par2 ?_ | with_reducible refine w_put ?_ | with_reducible refine w_asg ?_ | with_reducible refine w_set ?_ | with_reducible refine w_ifS ?_ | with_reducible refine w_retN ?_ | with_reducible refine w_ret ?_ | with_reducible refine w_drop ?_ | with_reducible refine w_ct ?_ | with_reducible refine w_bk ?_ | with_reducible refine w_nx ?_ | with_reducible refine w_seq ?_))
local macro_rules | `(tactic| infer_instance) => `(tactic| (with_reducible refine g_wpE ?_; first | with_reducible refine w_of ?_ | with_reducible refine v_dic0 ?_ | with_reducible refine v_mq ?_ | with_reducible refine v_chain ?_ | with_reducible refine v_fn (by with_unfolding_all rfl) (by with_unfolding_all rfl) (by dsimp only [Nat.reduceSub, List.replicate, List.cons_append, List.nil_append] <;> exact rfl) ?_ | with_reducible refine v_mtL (by with_unfolding_all rfl) ?_ | with_reducible refine v_callK ?_ | with_reducible refine v_call ?_ | with_reducible refine w_NotV ?_ | with_reducible refine w_OrV ?_ | with_reducible refine w_AndV ?_ | with_reducible refine w_sl ?_ | with_reducible refine w_varB (by with_unfolding_all rfl) ?_ | with_reducible refine w_varO (by with_unfolding_all rfl) ?_ | with_reducible refine w_var (by with_unfolding_all rfl) ?_ | with_reducible refine v_tup ?_ | with_reducible refine v_lst ?_ | with_reducible refine w_If ?_ | with_reducible refine w_c ?_ | with_reducible refine w_m2 ?_ | with_reducible refine w_m1 ?_ | with_reducible refine w_callN ?_))
/-! ### V78: the first order by numbers that has some arrows is the first of all -/
def lexLt (ns a b : List Str) : Prop := ∃ i x y, a.take i = b.take i ∧ a[i]? = some x ∧ b[i]? = some y ∧ ns.idxOf x < ns.idxOf y
theorem take_at {α : Type} {a b : List α} {i j : Nat} (h : a.take i = b.take i) (hj : j < i) : a[j]? = b[j]? := by
  have : (a.take i)[j]? = (b.take i)[j]? := by rw [h]
  rw [List.getElem?_take, if_pos hj, List.getElem?_take, if_pos hj] at this
  exact this
theorem lex_asymm {ns a b : List Str} (h : lexLt ns a b) (h2 : lexLt ns b a) : False := by
  obtain ⟨i, x, y, e, e1, e2, lt⟩ := h
  obtain ⟨j, x', y', e', e1', e2', lt'⟩ := h2
  rcases Nat.lt_trichotomy i j with c | c | c
  · rw [← take_at e' c, e2] at e1
    cases e1
    omega
  · subst c
    rw [e1] at e2'
    rw [e2] at e1'
    cases e2'
    cases e1'
    omega
  · rw [take_at e c, e1'] at e2'
    cases e2'
    omega
theorem idx_pw : ∀ {ns : List Str}, ns.Nodup → ns.Pairwise fun x y => ns.idxOf x < ns.idxOf y := fun {ns} nd => by
  refine List.pairwise_iff_getElem.mpr fun i j hi hj hlt => ?_
  rw [idx_at nd (List.getElem?_eq_getElem hi), idx_at nd (List.getElem?_eq_getElem hj)]
  exact hlt
theorem ordsF_lex {ns : List Str} (nd : ns.Nodup) : ∀ j, (ordsF ns j).Pairwise (lexLt ns)
  | 0 => List.pairwise_singleton _ _
  | j + 1 => by
    show ((ordsF ns j).flatMap fun o => (ns.filter fun z => !decide (z ∈ o)).map fun z => o ++ [z]).Pairwise (lexLt ns)
    have snoc : ∀ {o : List Str} {z : Str}, (o ++ [z]).take o.length = o := fun {o z} => List.take_left
    have last : ∀ {o : List Str} {z : Str}, (o ++ [z])[o.length]? = some z := fun {o z} => List.getElem?_concat_length
    rw [List.pairwise_flatMap]
    refine ⟨fun o _ => ?_, List.Pairwise.imp_of_mem (fun {o o'} ho ho' h x hx y hy => ?_) (ordsF_lex nd j)⟩
    · rw [List.pairwise_map]
      refine List.Pairwise.imp (fun {x y} h => ?_) ((idx_pw nd).sublist List.filter_sublist)
      exact ⟨o.length, x, y, by rw [snoc, snoc], last, last, h⟩
    · obtain ⟨x, _, rfl⟩ := List.mem_map.mp hx
      obtain ⟨y, _, rfl⟩ := List.mem_map.mp hy
      obtain ⟨i, p, q, e, e1, e2, lt⟩ := h
      have li := (List.getElem?_eq_some_iff.mp e1).1
      have li' := (List.getElem?_eq_some_iff.mp e2).1
      refine ⟨i, p, q, ?_, by rw [List.getElem?_append_left li]; exact e1, by rw [List.getElem?_append_left li']; exact e2, lt⟩
      rw [List.take_append_of_le_length (by omega), List.take_append_of_le_length (by omega)]
      exact e
section
variable {ns : List Str} {rs L : List (Str × Str)} {ord : List Str}
theorem goF_le (nd : ns.Nodup) (O : OrdOk ns ord) (hL : ∀ a b, (a, b) ∈ L → a ∈ ns ∧ ord.idxOf a < ord.idxOf b) : ∀ (k : Nat) (got : List Str), got.length + k = ns.length → got.Nodup → (∀ z ∈ got, z ∈ ns) →
    ∃ o, goF L ns k got = some o ∧ o.take got.length = got ∧ (got = ord.take got.length → o = ord ∨ lexLt ns o ord)
  | 0, got, hl, gn, gs => ⟨got, rfl, List.take_length, fun h => .inl (by
      rw [h, List.take_of_length_le (by rw [O.pm.length_eq]; omega)])⟩
  | k + 1, got, hl, gn, gs => by
    have ond : ord.Nodup := O.pm.nodup_iff.mpr nd
    have ol := O.pm.length_eq
    -- a place that is left, the first by the order, is free
    have free_of : ∀ i : Nat, (∀ (j : Nat) (x : Str), j < i → ord[j]? = some x → x ∈ got) → ∀ y, ord[i]? = some y → y ∉ got → y ∈ ns.filter (frB L got) := fun i hi y hy hn => by
      have hyo : y ∈ ord := List.mem_of_getElem? hy
      refine List.mem_filter.mpr ⟨O.pm.mem_iff.mp hyo, ?_⟩
      unfold frB
      rw [Bool.and_eq_true]
      refine ⟨by rw [decide_eq_false hn]; rfl, List.all_eq_true.mpr fun x hx => decide_eq_true ?_⟩
      obtain ⟨xn, xl⟩ := hL x y (prd_mem.mp hx)
      rw [idx_at ond hy] at xl
      exact hi (ord.idxOf x) x xl (idx_get' (O.pm.mem_iff.mpr xn))
    obtain ⟨i, y, hi, hy, hn⟩ : ∃ (i : Nat) (y : Str), (∀ (j : Nat) (x : Str), j < i → ord[j]? = some x → x ∈ got) ∧ ord[i]? = some y ∧ y ∉ got := by
      have ex : ∃ i : Nat, ∃ y, ord[i]? = some y ∧ y ∉ got := by
        refine Classical.byContradiction fun h => ?_
        have := nd_le ond fun z hz => by
          obtain ⟨i, hi⟩ := List.mem_iff_getElem?.mp hz
          exact Classical.byContradiction fun hn => h ⟨i, z, hi, hn⟩
        omega
      have key : ∀ i : Nat, (∃ y, ord[i]? = some y ∧ y ∉ got) → ∃ (i : Nat) (y : Str), (∀ (j : Nat) (x : Str), j < i → ord[j]? = some x → x ∈ got) ∧ ord[i]? = some y ∧ y ∉ got := fun i => by
        induction i using Nat.strongRecOn with
        | _ i ih =>
          rintro ⟨y, hy, hn⟩
          by_cases h : ∃ (j : Nat) (x : Str), j < i ∧ ord[j]? = some x ∧ x ∉ got
          · obtain ⟨j, x, hj, e, hx⟩ := h
            exact ih j hj ⟨x, e, hx⟩
          · exact ⟨i, y, fun j x hj e => Classical.byContradiction fun hx => h ⟨j, x, hj, e, hx⟩, hy, hn⟩
      exact ex.elim key
    have hf := free_of i hi y hy hn
    cases hfl : ns.filter (frB L got) with
    | nil => rw [hfl] at hf; cases hf
    | cons z zs =>
      have hz : z ∈ ns.filter (frB L got) := by rw [hfl]; exact List.mem_cons_self
      obtain ⟨zn, zf⟩ := List.mem_filter.mp hz
      have zg : z ∉ got := fun h => by
        unfold frB at zf
        rw [decide_eq_true h] at zf
        cases zf
      obtain ⟨o, e1, e2, e3⟩ := goF_le nd O hL k (got ++ [z]) (by rw [List.length_append]; show _ + 1 + _ = _; omega) (by
        rw [List.nodup_append]
        exact ⟨gn, by simp, fun p hp q hq e => zg (by rw [List.mem_singleton.mp hq] at e; rw [← e]; exact hp)⟩) (alS gs zn)
      rw [List.length_append, List.length_singleton] at e2 e3
      have ot : o.take got.length = got := by
        have := congrArg (List.take got.length) e2
        rw [List.take_take, Nat.min_eq_left (Nat.le_succ _), List.take_left] at this
        exact this
      have oz : o[got.length]? = some z := by
        have : (o.take (got.length + 1))[got.length]? = (got ++ [z])[got.length]? := by rw [e2]
        rw [List.getElem?_take, if_pos (Nat.lt_succ_self _), List.getElem?_concat_length] at this
        exact this
      refine ⟨o, by rw [goF_some hfl]; exact e1, ot, fun hg => ?_⟩
      -- the order's own next place is free as well
      obtain ⟨w, hw⟩ : ∃ w, ord[got.length]? = some w := ⟨_, List.getElem?_eq_getElem (by omega)⟩
      have wn : w ∉ got := fun h => by
        rw [hg] at h
        obtain ⟨j, hj⟩ := List.mem_iff_getElem?.mp h
        have jl := (List.getElem?_eq_some_iff.mp hj).1
        rw [List.length_take] at jl
        rw [List.getElem?_take, if_pos (by omega)] at hj
        have := (List.getElem?_inj (by omega) ond).mp (hj.trans hw.symm)
        omega
      have hwf := free_of got.length (fun j x hj e => by
        rw [hg]
        exact List.mem_of_getElem? (i := j) (by rw [List.getElem?_take, if_pos hj]; exact e)) w hw wn
      rw [hfl] at hwf
      rcases List.mem_cons.mp hwf with rfl | hm
      · refine e3 ?_
        rw [take_snoc' hw]
        exact congrArg (· ++ [w]) hg
      · refine .inr ⟨got.length, z, w, by rw [ot]; exact hg, oz, hw, ?_⟩
        have pw := (idx_pw nd).sublist (List.filter_sublist (p := frB L got))
        rw [hfl] at pw
        exact (List.pairwise_cons.mp pw).1 w hm
theorem arr_lt (W : WebOk (fun z => nameS z = true) ns rs) (O : OrdOk ns ord) : ∀ a b, (a, b) ∈ ars ord rs → a ∈ ns ∧ ord.idxOf a < ord.idxOf b := fun a b h => by
  obtain ⟨r, hr, e⟩ := List.mem_map.mp h
  obtain ⟨h1, h2, h3⟩ := W.en r hr
  have o1 := O.pm.mem_iff.mpr h1
  have o2 := O.pm.mem_iff.mpr h2
  have ne := idx_ne o1 o2 h3
  have e : (if ord.idxOf r.1 < ord.idxOf r.2 then r else flip2 r) = (a, b) := by
    rw [← e]
    unfold arw
    try rfl
  by_cases c : ord.idxOf r.1 < ord.idxOf r.2
  · rw [if_pos c] at e
    subst e
    exact ⟨h1, c⟩
  · rw [if_neg c] at e
    have e1 : r.2 = a := congrArg Prod.fst e
    have e2 : r.1 = b := congrArg Prod.snd e
    rw [← e1, ← e2]
    exact ⟨h2, by omega⟩
theorem fst_le (W : WebOk (fun z => nameS z = true) ns rs) (O : OrdOk ns ord) : ∃ f, fstO ns (ars ord rs) = some f ∧ (f = ord ∨ lexLt ns f ord) := by
  obtain ⟨f, e1, _, e3⟩ := goF_le W.nd O (arr_lt W O) ns.length [] (Nat.zero_add _) List.nodup_nil nofun
  exact ⟨f, e1, e3 rfl⟩
/-- of all orders, the first one met with its arrows is the first one by numbers -/
theorem first_met (W : WebOk (fun z => nameS z = true) ns rs) {j : Nat} (hj : (ordsF ns ns.length)[j]? = some ord) (hn : ∀ o ∈ (ordsF ns ns.length).take j, ars o rs ≠ ars ord rs) : fstO ns (ars ord rs) = some ord := by
  have O : OrdOk ns ord := (ordsF_ord W.nd).mp (List.mem_of_getElem? hj)
  obtain ⟨f, e, h⟩ := fst_le W O
  rcases h with rfl | h
  · exact e
  · exfalso
    have Of := fst_ord W e
    have fa := fst_ars W (ars_of ord) e
    obtain ⟨i, hi⟩ := List.mem_iff_getElem?.mp ((ordsF_ord W.nd).mpr Of)
    have il := (List.getElem?_eq_some_iff.mp hi)
    have jl := (List.getElem?_eq_some_iff.mp hj)
    rcases Nat.lt_trichotomy i j with c | c | c
    · exact hn f (List.mem_of_getElem? (i := i) (by rw [List.getElem?_take, if_pos c]; exact hi)) fa
    · subst c
      rw [hi] at hj
      cases hj
      exact lex_asymm h h
    · have := List.pairwise_iff_getElem.mp (ordsF_lex W.nd ns.length) j i jl.1 il.1 c
      rw [jl.2, il.2] at this
      exact lex_asymm h this
/-! the dict of first orders -/
def akey (L : List (Str × Str)) : NestedKey := .tup (L.map fun p => .tup [.text p.1, .text p.2])
theorem key_ars (L : List (Str × Str)) : keyD (arsD L) = some (akey L) := by
  have h := nkDs_map (f := sD) (g := fun p : Str × Str => NestedKey.tup [.text p.1, .text p.2]) (fun p => rfl) L
  have d : ∀ M : List (Str × Str), NestedKey.depthAll (M.map fun p => NestedKey.tup [.text p.1, .text p.2]) ≤ 1 := fun M => by
    induction M with
    | nil => exact Nat.zero_le _
    | cons p M ih =>
      show max (NestedKey.tup [.text p.1, .text p.2]).depth (NestedKey.depthAll (M.map _)) ≤ 1
      refine Nat.max_le.mpr ⟨?_, ih⟩
      show max 0 (max 0 0) + 1 ≤ 1
      decide
  show ((nkDs (L.map sD)).bind fun ks => if (NestedKey.tup ks).depth ≤ 8 then some (NestedKey.tup ks) else none) = _
  rw [h]
  show (if NestedKey.depthAll (L.map fun p => NestedKey.tup [.text p.1, .text p.2]) + 1 ≤ 8 then some (akey L) else none) = _
  rw [if_pos (by have := d L; omega)]
theorem akey_inj {a b : List (Str × Str)} (h : akey a = akey b) : a = b := by
  have h : a.map (fun p => NestedKey.tup [.text p.1, .text p.2]) = b.map fun p => NestedKey.tup [.text p.1, .text p.2] := by injection h
  refine (List.map_inj_right fun p q e => ?_).mp h
  have e : [NestedKey.text p.1, .text p.2] = [.text q.1, .text q.2] := by injection e
  injection e with e1 e2
  injection e2 with e2 _
  injection e1 with e1
  injection e2 with e2
  exact Prod.ext e1 e2
def fsD (ns : List Str) : List (Str × Str) → D := fun L => orD (fstO ns L)
abbrev fsM (ns : List Str) (G : List (List (Str × Str))) : List (D × D) := gM arsD (fsD ns) G
theorem fsM_get {G : List (List (Str × Str))} (h : L ∈ G) : dGet (fsM ns G) (arsD L) = some (some (fsD ns L)) := by
  refine (gM_get (kk := akey) key_ars (fun _ _ => akey_inj) (fun _ => rfl)).trans ?_
  have : (G.find? fun x => decide (x = L)) = some L := by
    induction G with
    | nil => cases h
    | cons M G ih =>
      rw [List.find?_cons]
      by_cases e : M = L
      · rw [decide_eq_true e, e]
      · rw [decide_eq_false e]
        exact ih ((List.mem_cons.mp h).resolve_left fun z => e z.symm)
  rw [this]
  rfl
theorem fsM_set {G : List (List (Str × Str))} {d : D} (hl : G.length < 2 ^ 20) (hd : L ∉ G → d = fsD ns L) : gSetd (.M (fsM ns G)) [arsD L, d] = some (.M (fsM ns (if L ∈ G then G else G ++ [L])), fsD ns L) := by
  show (keyD (arsD L)).bind _ = _
  rw [key_ars]
  show (if kOk (fsM ns G) (arsD L) = true ∧ (fsM ns G).length < 2 ^ 20 then (match dFind (fsM ns G) (akey L) with
    | some v => some (OC.M (fsM ns G), v)
    | none => some (OC.M (dSet (fsM ns G) (akey L) (arsD L) d), d)) else none) = _
  rw [if_pos ⟨gM_kOk (fun _ => rfl) rfl, by rw [List.length_map]; exact hl⟩]
  by_cases h : L ∈ G
  · have e := fsM_get (ns := ns) h
    have e2 : dFind (fsM ns G) (akey L) = some (fsD ns L) := by
      unfold dGet at e
      rw [key_ars] at e
      have e : (if kOk (fsM ns G) (arsD L) = true then some (dFind (fsM ns G) (akey L)) else none) = some (some (fsD ns L)) := e
      rw [if_pos (gM_kOk (fun _ => rfl) rfl)] at e
      exact Option.some.inj e
    rw [e2, if_pos h]
  · have e2 : dFind (fsM ns G) (akey L) = none := gM_none (kk := akey) key_ars (fun _ _ => akey_inj) h
    rw [e2, if_neg h, hd h]
    show some (OC.M (dSet (fsM ns G) (akey L) (arsD L) (fsD ns L)), fsD ns L) = _
    rw [dset_new e2]
    show _ = some (OC.M ((G ++ [L]).map fun x => (arsD x, fsD ns x)), fsD ns L)
    rw [List.map_append]
    rfl
end
end PK

namespace PK
end PK
namespace PX
open PySem PySem.Spec PyProof.Rows L2 PL PK
/-- what stands behind the top -/
structure Fx (K : PySem.W.Frag) (mg : Str → Option Value) : Prop where
  d__law_draw : At K mg "_law_draw" (top 30)
  d__law_one : At K mg "_law_one" (top 31)
  d__law_mixed : At K mg "_law_mixed" (top 32)
  d__law_names : At K mg "_law_names" (top 33)
  d__law_web : At K mg "_law_web" (top 34)
  d__law_wide_web : At K mg "_law_wide_web" (top 37)
  d__law_any_web : At K mg "_law_any_web" (top 38)
  d__law_arrows : At K mg "_law_arrows" (top 36)
  d__law_feed : At K mg "_law_feed" (top 29)
  d__law_first : At K mg "_law_first" (top 44)
  d__law_swapped : At K mg "_law_swapped" (top 41)
  d__law_apart : At K mg "_law_apart" (top 40)
  d__law_swaps : At K mg "_law_swaps" (top 42)
  d__law_like : At K mg "_law_like" (top 43)
  d__law_order : At K mg "_law_order" (top 35)
  d__law_orders : At K mg "_law_orders" (top 39)
  d_arrows_of : At K mg "arrows_of" (top 1)
  d_are_unlike : At K mg "are_unlike" (top 14)
  d_are_places : At K mg "are_places" (top 18)
  d_is_row_of : At K mg "is_row_of" (top 13)
  d_is_order : At K mg "is_order" (top 22)
  d_need_order : At K mg "need_order" (top 23)
  d_is_name : At K mg "is_name" (top 12)
  d_is_road : At K mg "is_road" (top 19)
  d_is_web_form : At K mg "is_web_form" (top 20)
  d_need_web : At K mg "need_web" (top 21)
  d_need_two_orders : At K mg "need_two_orders" (top 25)
  d_are_alike : At K mg "are_alike" (top 26)
  d_ahead_of : At K mg "ahead_of" (top 2)
  d_first_order : At K mg "first_order" (top 3)
  d_first_alike : At K mg "first_alike" (top 27)
  d_law : At K mg "law" (top 45)
  n_all : mg "all" = none
  n_enumerate : mg "enumerate" = none
  n_int : mg "int" = none
  n_isinstance : mg "isinstance" = none
  n_len : mg "len" = none
  n_list : mg "list" = none
  n_max : mg "max" = none
  n_min : mg "min" = none
  n_range : mg "range" = none
  n_repr : mg "repr" = none
  n_set : mg "set" = none
  n_sorted : mg "sorted" = none
  n_str : mg "str" = none
  n_sum : mg "sum" = none
  n_tuple : mg "tuple" = none
  c_DIGITS : ∃ t, mg "DIGITS" = some (.str "0123456789" t)
  c_LETTERS : ∃ t, mg "LETTERS" = some (.str "abcdefghijklmnopqrstuvwxyz" t)
  c_MOST_PLACES : ∃ t, mg "MOST_PLACES" = some (.int 8 t)
  c_MOST_ROADS : ∃ t, mg "MOST_ROADS" = some (.int 14 t)
  c_MOST_SIGNS : ∃ t, mg "MOST_SIGNS" = some (.int 8 t)
variable [TheW]

/-! ### _law_draw -/
theorem sc__law_draw : FnScope ["_law_feed_here", "_law_many", "_law_rest", "_law_got", "_law_stir"] ["_law_feed_here", "_law_many"] (defScope (top 30)) := ⟨rfl, rfl, rfl, by decide +kernel, rfl, by decide +kernel, by decide +kernel⟩
theorem fw__law_draw {P : Program} {K : PySem.W.Frag} {mg : Str → Option Value} {base : Heap} (F : Fx K mg) : ∃ f fd, DefT K "_law_draw" (top 30) f fd ∧ mg "_law_draw" = some (.ref f) ∧ FnG P TheW.w K mg base 1 f fd ["_law_feed_here", "_law_many"] fm__law_draw :=
  at_g (N := ["_law_feed_here", "_law_many", "_law_rest", "_law_got", "_law_stir"]) (ps := ["_law_feed_here", "_law_many"]) (k := 0) (ms := ms__law_draw) F.d__law_draw sc__law_draw fun f cdv A outer s H hr hg => by
  have sc := sc__law_draw
  unfold ms__law_draw
  exact (s_cons (s_if (q_gt (p_ix (u65 hr) (p_var 0) p_int) p_int) (s_cons (s_set (i := 2) sc.nd (p_div (p_ix (u65 hr) (p_var 0) p_int) (p_var 1)))
  (s_cons (s_set (i := 3) sc.nd (p_sub (p_ix (u65 hr) (p_var 0) p_int) (p_mul (p_var 2) (p_var 1))))
  (s_cons (s_put (i := 0) (u65 hr) (p_var 2) p_int)
  (s_one (s_ret (p_var 3)))))) s_nil)
  (s_cons (s_put (i := 0) (u65 hr) (p_add (p_ix (u65 hr) (p_var 0) p_int) p_int) p_int)
  (s_cons (s_set (i := 4) sc.nd (p_add (p_ix (u65 hr) (p_var 0) p_int) (p_mul p_int (p_ix (u65 hr) (p_var 0) p_int))))
  (s_cons (s_set (i := 4) sc.nd (p_mod (p_callTy call_int1 on_int F.n_int bt_int (a_cons (p_add (p_mul (p_mul (p_var 4) (p_var 4)) (p_var 4)) (p_mul p_int (p_ix (u65 hr) (p_var 0) p_int))) a_nil)) (p_add (p_pow p_int p_int) p_int)))
  (s_cons (s_set (i := 4) sc.nd (p_mod (p_callTy call_int1 on_int F.n_int bt_int (a_cons (p_add (p_mul (p_var 4) (p_var 4)) p_int) a_nil)) (p_add (p_pow p_int p_int) p_int)))
  (s_one (s_ret (p_mod (p_callTy call_int1 on_int F.n_int bt_int (a_cons (p_div (p_var 4) (p_pow p_int p_int)) a_nil)) (p_var 1)))))))))
theorem cl__law_draw {P : Program} {K : PySem.W.Frag} {mg : Str → Option Value} {base : Heap} (F : Fx K mg) : Cl P TheW.w K mg base 1 "_law_draw" ["_law_feed_here", "_law_many"] fm__law_draw :=
  cl_of (fw__law_draw F) fun _ _ _ _ _ _ us hl => match us, hl with | [_, _], _ => rfl

/-! ### _law_one -/
theorem sc__law_one : FnScope ["_law_feed_here", "_law_things"] ["_law_feed_here", "_law_things"] (defScope (top 31)) := ⟨rfl, rfl, rfl, by decide +kernel, rfl, by decide +kernel, by decide +kernel⟩
theorem fw__law_one {P : Program} {K : PySem.W.Frag} {mg : Str → Option Value} {base : Heap} (F : Fx K mg) : ∃ f fd, DefT K "_law_one" (top 31) f fd ∧ mg "_law_one" = some (.ref f) ∧ FnG P TheW.w K mg base 2 f fd ["_law_feed_here", "_law_things"] fm__law_one :=
  at_g (N := ["_law_feed_here", "_law_things"]) (ps := ["_law_feed_here", "_law_things"]) (k := 1) (ms := ms__law_one) F.d__law_one sc__law_one fun f cdv A outer s H hr hg => by
  have sc := sc__law_one
  unfold ms__law_one
  exact (s_one (s_ret (p_ix (u65 hr) (p_var 1) (p_cl (cl__law_draw F) hr hg (a_cons (p_var 0) (a_cons (p_callB call_len on_len F.n_len bt_len (a_cons (p_var 1) a_nil)) a_nil))))))
theorem cl__law_one {P : Program} {K : PySem.W.Frag} {mg : Str → Option Value} {base : Heap} (F : Fx K mg) : Cl P TheW.w K mg base 2 "_law_one" ["_law_feed_here", "_law_things"] fm__law_one :=
  cl_of (fw__law_one F) fun _ _ _ _ _ _ us hl => match us, hl with | [_, _], _ => rfl

/-! ### _law_mixed -/
theorem sc__law_mixed : FnScope ["_law_feed_here", "_law_things", "_law_pool", "_law_got", "_law_turn"] ["_law_feed_here", "_law_things"] (defScope (top 32)) := ⟨rfl, rfl, rfl, by decide +kernel, rfl, by decide +kernel, by decide +kernel⟩
theorem fw__law_mixed {P : Program} {K : PySem.W.Frag} {mg : Str → Option Value} {base : Heap} (F : Fx K mg) : ∃ f fd, DefT K "_law_mixed" (top 32) f fd ∧ mg "_law_mixed" = some (.ref f) ∧ FnG P TheW.w K mg base 2 f fd ["_law_feed_here", "_law_things"] fm__law_mixed :=
  at_g (N := ["_law_feed_here", "_law_things", "_law_pool", "_law_got", "_law_turn"]) (ps := ["_law_feed_here", "_law_things"]) (k := 1) (ms := ms__law_mixed) F.d__law_mixed sc__law_mixed fun f cdv A outer s H hr hg => by
  have sc := sc__law_mixed
  unfold ms__law_mixed
  exact (s_cons (s_par2 (i := 2) (j := 3) sc.nd (a_cons (p_callTy call_list_of on_list F.n_list bt_list (a_cons (p_var 1) a_nil)) (a_cons (p_lst pds_nil) a_nil)))
  (s_cons (s_for (vs := [4]) PassesOwn.never (i_range1 F.n_range (pds_cons (pd_of (p_callB call_len on_len F.n_len bt_len (a_cons (p_var 1) a_nil))) pds_nil)) (g_name sc.nd (i := 4)) (s_one (s_expr (p_mt pa_list sl_append ty_append mt_append om_append (pds_cons (pd_of (p_mt pa_list sl_pop ty_pop mt_popAt om_popAt (pds_cons (pd_of (p_cl (cl__law_draw F) hr hg (a_cons (p_var 0) (a_cons (p_callB call_len on_len F.n_len bt_len (a_cons (p_var 2) a_nil)) a_nil)))) pds_nil) (i := 2))) pds_nil) (i := 3)))))
  (s_one (s_ret (p_var 3)))))
theorem cl__law_mixed {P : Program} {K : PySem.W.Frag} {mg : Str → Option Value} {base : Heap} (F : Fx K mg) : Cl P TheW.w K mg base 2 "_law_mixed" ["_law_feed_here", "_law_things"] fm__law_mixed :=
  cl_of (fw__law_mixed F) fun _ _ _ _ _ _ us hl => match us, hl with | [_, _], _ => rfl

/-! ### _law_names -/
theorem sc__law_names : FnScope ["_law_feed_here", "_law_many"] ["_law_feed_here", "_law_many"] (defScope (top 33)) := ⟨rfl, rfl, rfl, by decide +kernel, rfl, by decide +kernel, by decide +kernel⟩
theorem fw__law_names {P : Program} {K : PySem.W.Frag} {mg : Str → Option Value} {base : Heap} (F : Fx K mg) : ∃ f fd, DefT K "_law_names" (top 33) f fd ∧ mg "_law_names" = some (.ref f) ∧ FnG P TheW.w K mg base 3 f fd ["_law_feed_here", "_law_many"] fm__law_names :=
  at_g (N := ["_law_feed_here", "_law_many"]) (ps := ["_law_feed_here", "_law_many"]) (k := 2) (ms := ms__law_names) F.d__law_names sc__law_names fun f cdv A outer s H hr hg => by
  have sc := sc__law_names
  unfold ms__law_names
  exact (s_one (s_ret (p_sl (p_cl (cl__law_mixed F) hr hg (a_cons (p_var 0) (a_cons (p_lst (pds_cons (pd_of p_str) (pds_cons (pd_of p_str) (pds_cons (pd_of p_str) (pds_cons (pd_of p_str) (pds_cons (pd_of p_str) (pds_cons (pd_of p_str) (pds_cons (pd_of p_str) (pds_cons (pd_of p_str) (pds_cons (pd_of p_str) (pds_cons (pd_of p_str) (pds_cons (pd_of p_str) (pds_cons (pd_of p_str) pds_nil))))))))))))) a_nil))) o_none (o_some (p_var 1)))))
theorem cl__law_names {P : Program} {K : PySem.W.Frag} {mg : Str → Option Value} {base : Heap} (F : Fx K mg) : Cl P TheW.w K mg base 3 "_law_names" ["_law_feed_here", "_law_many"] fm__law_names :=
  cl_of (fw__law_names F) fun _ _ _ _ _ _ us hl => match us, hl with | [_, _], _ => rfl

/-! ### _law_web -/
theorem sc__law_web : FnScope ["_law_feed_here", "_law_way", "_law_most", "_law_many", "_law_pairs", "_law_shape", "_law_at", "_law_back", "_law_turn", "_law_one_here", "_law_other", "_law_pair", "_law_names_here", "_law_roads"] ["_law_feed_here", "_law_way", "_law_most"] (defScope (top 34)) := ⟨rfl, rfl, rfl, by decide +kernel, rfl, by decide +kernel, by decide +kernel⟩
theorem fw__law_web {P : Program} {K : PySem.W.Frag} {mg : Str → Option Value} {base : Heap} (F : Fx K mg) : ∃ f fd, DefT K "_law_web" (top 34) f fd ∧ mg "_law_web" = some (.ref f) ∧ FnG P TheW.w K mg base 4 f fd ["_law_feed_here", "_law_way", "_law_most"] fm__law_web :=
  at_g (N := ["_law_feed_here", "_law_way", "_law_most", "_law_many", "_law_pairs", "_law_shape", "_law_at", "_law_back", "_law_turn", "_law_one_here", "_law_other", "_law_pair", "_law_names_here", "_law_roads"]) (ps := ["_law_feed_here", "_law_way", "_law_most"]) (k := 3) (ms := ms__law_web) F.d__law_web sc__law_web fun f cdv A outer s H hr hg => by
  have sc := sc__law_web
  unfold ms__law_web
  exact (s_cons (s_set (i := 3) sc.nd (p_if (q_eq (u64 hr) (p_var 1) p_str) (p_callB (call_max2 rfl) on_max2 F.n_max bt_max (a_cons p_int (a_cons (p_add p_int (p_cl (cl__law_draw F) hr hg (a_cons (p_var 0) (a_cons (p_var 2) a_nil)))) a_nil))) (p_add p_int (p_cl (cl__law_draw F) hr hg (a_cons (p_var 0) (a_cons (p_var 2) a_nil))))))
  (s_cons (s_par2 (i := 4) (j := 5) sc.nd (a_cons (p_lst pds_nil) (a_cons (p_cl (cl__law_draw F) hr hg (a_cons (p_var 0) (a_cons p_int a_nil))) a_nil)))
  (s_cons (s_for (vs := [6]) PassesOwn.never (i_range2 F.n_range (pds_cons (pd_of p_int) (pds_cons (pd_of (p_var 3)) pds_nil))) (g_name sc.nd (i := 6)) (s_cons (s_set (i := 7) sc.nd (p_if (q_w (w_or (q_eq (u64 hr) (p_var 5) p_int) (w_or1 (q_eq (u64 hr) (p_var 1) p_str)))) (p_sub (p_var 6) p_int) (p_if (q_eq (u64 hr) (p_var 5) p_int) p_int (p_cl (cl__law_draw F) hr hg (a_cons (p_var 0) (a_cons (p_var 6) a_nil))))))
  (s_one (s_if (q_w (w_or (q_ne (u64 hr) (p_var 1) p_str) (w_or1 (q_gt (p_cl (cl__law_draw F) hr hg (a_cons (p_var 0) (a_cons p_int a_nil))) p_int)))) (s_one (s_expr (p_mt pa_list sl_append ty_append mt_append om_append (pds_cons (pd_of (p_tup (pds_cons (pd_of (p_var 7)) (pds_cons (pd_of (p_var 6)) pds_nil)))) pds_nil) (i := 4)))) s_nil))))
  (s_cons (s_if (q_eq (u64 hr) (p_var 1) p_str) (s_one (s_expr (p_mt pa_list sl_append ty_append mt_append om_append (pds_cons (pd_of (p_tup (pds_cons (pd_of p_int) (pds_cons (pd_of (p_sub (p_var 3) p_int)) pds_nil)))) pds_nil) (i := 4)))) s_nil)
  (s_cons (s_for (vs := [8]) PassesOwn.never (i_range1 F.n_range (pds_cons (pd_of (p_if (q_w (w_and (q_in (u65 hr) (p_var 1) (p_tup (pds_cons (pd_of p_str) (pds_cons (pd_of p_str) pds_nil)))) (w_and1 (q_gt (p_var 3) p_int)))) (p_cl (cl__law_draw F) hr hg (a_cons (p_var 0) (a_cons p_int a_nil))) p_int)) pds_nil)) (g_name sc.nd (i := 8)) (s_cons (s_set (i := 9) sc.nd (p_cl (cl__law_draw F) hr hg (a_cons (p_var 0) (a_cons (p_var 3) a_nil))))
  (s_cons (s_set (i := 10) sc.nd (p_mod (p_callTy call_int1 on_int F.n_int bt_int (a_cons (p_add (p_add (p_var 9) p_int) (p_cl (cl__law_draw F) hr hg (a_cons (p_var 0) (a_cons (p_sub (p_var 3) p_int) a_nil)))) a_nil)) (p_var 3)))
  (s_cons (s_set (i := 11) sc.nd (p_tup (pds_cons (pd_of (p_callB (call_min2 rfl) on_min2 F.n_min bt_min (a_cons (p_var 9) (a_cons (p_var 10) a_nil)))) (pds_cons (pd_of (p_callB (call_max2 rfl) on_max2 F.n_max bt_max (a_cons (p_var 9) (a_cons (p_var 10) a_nil)))) pds_nil))))
  (s_one (s_if (q_notin (u65 hr) (p_var 11) (p_var 4)) (s_one (s_expr (p_mt pa_list sl_append ty_append mt_append om_append (pds_cons (pd_of (p_var 11)) pds_nil) (i := 4)))) s_nil))))))
  (s_cons (s_set (i := 12) sc.nd (p_cl (cl__law_names F) hr hg (a_cons (p_var 0) (a_cons (p_var 3) a_nil))))
  (s_cons (s_set (i := 13) sc.nd (p_lst pds_nil))
  (s_cons (s_for (vs := [9, 10]) PassesOwn.never (i_seq (p_cl (cl__law_mixed F) hr hg (a_cons (p_var 0) (a_cons (p_var 4) a_nil)))) (g_tup (gs_cons (g_name sc.nd (i := 9)) (gs_cons (g_name sc.nd (i := 10)) gs_nil))) (s_one (s_expr (p_mt pa_list sl_append ty_append mt_append om_append (pds_cons (pd_of (p_if (q_eq (u64 hr) (p_cl (cl__law_draw F) hr hg (a_cons (p_var 0) (a_cons p_int a_nil))) p_int) (p_tup (pds_cons (pd_of (p_ix (u65 hr) (p_var 12) (p_var 9))) (pds_cons (pd_of (p_ix (u65 hr) (p_var 12) (p_var 10))) pds_nil))) (p_tup (pds_cons (pd_of (p_ix (u65 hr) (p_var 12) (p_var 10))) (pds_cons (pd_of (p_ix (u65 hr) (p_var 12) (p_var 9))) pds_nil))))) pds_nil) (i := 13)))))
  (s_one (s_ret (p_tup (pds_cons (pd_of (p_callTy call_tupleF on_tuple F.n_tuple bt_tuple (a_cons (p_cl (cl__law_mixed F) hr hg (a_cons (p_var 0) (a_cons (p_var 12) a_nil))) a_nil))) (pds_cons (pd_of (p_callTy call_tupleF on_tuple F.n_tuple bt_tuple (a_cons (p_var 13) a_nil))) pds_nil)))))))))))))
theorem cl__law_web {P : Program} {K : PySem.W.Frag} {mg : Str → Option Value} {base : Heap} (F : Fx K mg) : Cl P TheW.w K mg base 4 "_law_web" ["_law_feed_here", "_law_way", "_law_most"] fm__law_web :=
  cl_of (fw__law_web F) fun _ _ _ _ _ _ us hl => match us, hl with | [_, _, _], _ => rfl

/-! ### _law_wide_web -/
theorem sc__law_wide_web : FnScope ["_law_feed_here", "_law_most", "_law_many", "_law_pairs", "_law_names_here", "_law_at", "_law_roads", "_law_to", "_law_one_here", "_law_other"] ["_law_feed_here", "_law_most"] (defScope (top 37)) := ⟨rfl, rfl, rfl, by decide +kernel, rfl, by decide +kernel, by decide +kernel⟩
theorem fw__law_wide_web {P : Program} {K : PySem.W.Frag} {mg : Str → Option Value} {base : Heap} (F : Fx K mg) : ∃ f fd, DefT K "_law_wide_web" (top 37) f fd ∧ mg "_law_wide_web" = some (.ref f) ∧ FnG P TheW.w K mg base 4 f fd ["_law_feed_here", "_law_most"] fm__law_wide_web :=
  at_g (N := ["_law_feed_here", "_law_most", "_law_many", "_law_pairs", "_law_names_here", "_law_at", "_law_roads", "_law_to", "_law_one_here", "_law_other"]) (ps := ["_law_feed_here", "_law_most"]) (k := 3) (ms := ms__law_wide_web) F.d__law_wide_web sc__law_wide_web fun f cdv A outer s H hr hg => by
  have sc := sc__law_wide_web
  unfold ms__law_wide_web
  exact (s_cons (s_par2 (i := 2) (j := 3) sc.nd (a_cons (p_add p_int (p_cl (cl__law_draw F) hr hg (a_cons (p_var 0) (a_cons (p_var 1) a_nil)))) (a_cons (p_lst pds_nil) a_nil)))
  (s_cons (s_set (i := 4) sc.nd (p_cl (cl__law_names F) hr hg (a_cons (p_var 0) (a_cons (p_var 2) a_nil))))
  (s_cons (s_for (vs := [5]) PassesOwn.never (i_range1 F.n_range (pds_cons (pd_of (p_var 2)) pds_nil)) (g_name sc.nd (i := 5)) (s_one (s_expr (p_mt pa_list sl_extend ty_extend mt_extendQ om_extend (pds_cons (pd_of (p_lc (own := [("_law_to", 7)]) sc.nd (i_range1 F.n_range (pds_cons (pd_of (p_var 5)) pds_nil)) (blkOk_by (by kernel_rfl)) (fun _ _ _ _ _ => (g_name sc.nd (i := 7))) (fun _ _ _ _ _ => c_nil) (fun _ _ _ _ _ => pd_of (p_tup (pds_cons (pd_of (p_ix (u65 hr) (p_var 4) (p_var 5))) (pds_cons (pd_of (p_ix (u65 hr) (p_var 4) (p_var 7))) pds_nil)))))) pds_nil) (i := 3)))))
  (s_cons (s_set (i := 6) sc.nd (p_sl (p_cl (cl__law_mixed F) hr hg (a_cons (p_var 0) (a_cons (p_var 3) a_nil))) o_none (o_some (p_cl (cl__law_draw F) hr hg (a_cons (p_var 0) (a_cons (p_add (p_callB (call_min2 rfl) on_min2 F.n_min bt_min (a_cons p_int (a_cons (p_callB call_len on_len F.n_len bt_len (a_cons (p_var 3) a_nil)) a_nil))) p_int) a_nil))))))
  (s_cons (s_setLc (i := 6) (own := [("_law_one_here", 8), ("_law_other", 9)]) sc.nd (i_seq (p_var 6)) (blkOk_by (by kernel_rfl)) (fun _ _ _ _ _ => (g_tup (gs_cons (g_name sc.nd (i := 8)) (gs_cons (g_name sc.nd (i := 9)) gs_nil)))) (fun _ _ _ _ _ => c_nil) (fun _ _ _ _ _ => pd_of (p_if (q_eq (u64 hr) (p_cl (cl__law_draw F) hr hg (a_cons (p_var 0) (a_cons p_int a_nil))) p_int) (p_tup (pds_cons (pd_of (p_var 9)) (pds_cons (pd_of (p_var 8)) pds_nil))) (p_tup (pds_cons (pd_of (p_var 8)) (pds_cons (pd_of (p_var 9)) pds_nil))))))
  (s_one (s_ret (p_tup (pds_cons (pd_of (p_callTy call_tupleF on_tuple F.n_tuple bt_tuple (a_cons (p_cl (cl__law_mixed F) hr hg (a_cons (p_var 0) (a_cons (p_var 4) a_nil))) a_nil))) (pds_cons (pd_of (p_callTy call_tupleF on_tuple F.n_tuple bt_tuple (a_cons (p_var 6) a_nil))) pds_nil))))))))))
theorem cl__law_wide_web {P : Program} {K : PySem.W.Frag} {mg : Str → Option Value} {base : Heap} (F : Fx K mg) : Cl P TheW.w K mg base 4 "_law_wide_web" ["_law_feed_here", "_law_most"] fm__law_wide_web :=
  cl_of (fw__law_wide_web F) fun _ _ _ _ _ _ us hl => match us, hl with | [_, _], _ => rfl

/-! ### _law_any_web -/
theorem sc__law_any_web : FnScope ["_law_feed_here", "_law_most"] ["_law_feed_here", "_law_most"] (defScope (top 38)) := ⟨rfl, rfl, rfl, by decide +kernel, rfl, by decide +kernel, by decide +kernel⟩
theorem fw__law_any_web {P : Program} {K : PySem.W.Frag} {mg : Str → Option Value} {base : Heap} (F : Fx K mg) : ∃ f fd, DefT K "_law_any_web" (top 38) f fd ∧ mg "_law_any_web" = some (.ref f) ∧ FnG P TheW.w K mg base 5 f fd ["_law_feed_here", "_law_most"] fm__law_any_web :=
  at_g (N := ["_law_feed_here", "_law_most"]) (ps := ["_law_feed_here", "_law_most"]) (k := 4) (ms := ms__law_any_web) F.d__law_any_web sc__law_any_web fun f cdv A outer s H hr hg => by
  have sc := sc__law_any_web
  unfold ms__law_any_web
  exact (s_cons (s_if (q_eq (u64 hr) (p_cl (cl__law_draw F) hr hg (a_cons (p_var 0) (a_cons p_int a_nil))) p_int) (s_one (s_ret (p_cl (cl__law_wide_web F) hr hg (a_cons (p_var 0) (a_cons (p_var 1) a_nil))))) s_nil)
  (s_one (s_ret (p_cl (cl__law_web F) hr hg (a_cons (p_var 0) (a_cons (p_cl (cl__law_one F) hr hg (a_cons (p_var 0) (a_cons (p_lst (pds_cons (pd_of p_str) (pds_cons (pd_of p_str) (pds_cons (pd_of p_str) (pds_cons (pd_of p_str) pds_nil))))) a_nil))) (a_cons (p_var 1) a_nil)))))))
theorem cl__law_any_web {P : Program} {K : PySem.W.Frag} {mg : Str → Option Value} {base : Heap} (F : Fx K mg) : Cl P TheW.w K mg base 5 "_law_any_web" ["_law_feed_here", "_law_most"] fm__law_any_web :=
  cl_of (fw__law_any_web F) fun _ _ _ _ _ _ us hl => match us, hl with | [_, _], _ => rfl

/-! ### _law_arrows -/
theorem sc__law_arrows : FnScope ["_law_web_here", "_law_order_here", "_law_road"] ["_law_web_here", "_law_order_here"] (defScope (top 36)) := ⟨rfl, rfl, rfl, by decide +kernel, rfl, by decide +kernel, by decide +kernel⟩
theorem fw__law_arrows {P : Program} {K : PySem.W.Frag} {mg : Str → Option Value} {base : Heap} (F : Fx K mg) : ∃ f fd, DefT K "_law_arrows" (top 36) f fd ∧ mg "_law_arrows" = some (.ref f) ∧ FnG P TheW.w K mg base 1 f fd ["_law_web_here", "_law_order_here"] fm__law_arrows :=
  at_g (N := ["_law_web_here", "_law_order_here", "_law_road"]) (ps := ["_law_web_here", "_law_order_here"]) (k := 0) (ms := ms__law_arrows) F.d__law_arrows sc__law_arrows fun f cdv A outer s H hr hg => by
  have sc := sc__law_arrows
  unfold ms__law_arrows
  exact (s_one (s_ret (p_callTy call_tupleF on_tuple F.n_tuple bt_tuple (a_cons (p_lc (own := [("_law_road", 2)]) sc.nd (i_seq (p_ix (u65 hr) (p_var 0) p_int)) (blkOk_by (by kernel_rfl)) (fun _ _ _ _ _ => (g_name sc.nd (i := 2))) (fun _ _ _ _ _ => c_nil) (fun _ _ _ _ _ => pd_of (p_if (q_lt (p_mq (by decide) pa_tuple sl_indexT ty_indexT mt_tup_index oq_indexT (p_var 1) (a_cons (p_ix (u65 hr) (p_var 2) p_int) a_nil)) (p_mq (by decide) pa_tuple sl_indexT ty_indexT mt_tup_index oq_indexT (p_var 1) (a_cons (p_ix (u65 hr) (p_var 2) p_int) a_nil))) (p_var 2) (p_tup (pds_cons (pd_of (p_ix (u65 hr) (p_var 2) p_int)) (pds_cons (pd_of (p_ix (u65 hr) (p_var 2) p_int)) pds_nil)))))) a_nil))))
theorem cl__law_arrows {P : Program} {K : PySem.W.Frag} {mg : Str → Option Value} {base : Heap} (F : Fx K mg) : Cl P TheW.w K mg base 1 "_law_arrows" ["_law_web_here", "_law_order_here"] fm__law_arrows :=
  cl_of (fw__law_arrows F) fun _ _ _ _ _ _ us hl => match us, hl with | [_, _], _ => rfl

/-! ### _law_feed -/
theorem sc__law_feed : FnScope ["_law_script", "_law_k", "_law_cell"] ["_law_script", "_law_k"] (defScope (top 29)) := ⟨rfl, rfl, rfl, by decide +kernel, rfl, by decide +kernel, by decide +kernel⟩
theorem fw__law_feed {P : Program} {K : PySem.W.Frag} {mg : Str → Option Value} {base : Heap} (F : Fx K mg) : ∃ f fd, DefT K "_law_feed" (top 29) f fd ∧ mg "_law_feed" = some (.ref f) ∧ FnG P TheW.w K mg base 1 f fd ["_law_script", "_law_k"] fm__law_feed :=
  at_g (N := ["_law_script", "_law_k", "_law_cell"]) (ps := ["_law_script", "_law_k"]) (k := 0) (ms := ms__law_feed) F.d__law_feed sc__law_feed fun f cdv A outer s H hr hg => by
  have sc := sc__law_feed
  unfold ms__law_feed
  exact (s_cons (s_set (i := 2) sc.nd (p_add (p_mul p_int (p_var 1)) (p_callB (cr_sum rfl) on_sum F.n_sum bt_sum (a_cons (p_sl (p_var 0) o_none (o_some p_int)) a_nil))))
  (s_cons (s_if (q_lt (p_var 1) (p_callB call_len on_len F.n_len bt_len (a_cons (p_var 0) a_nil))) (s_one (s_set (i := 2) sc.nd (p_ix (u65 hr) (p_var 0) (p_var 1)))) s_nil)
  (s_one (s_ret (p_lst (pds_cons (pd_of (p_callB (call_max2 rfl) on_max2 F.n_max bt_max (a_cons p_int (a_cons (p_sub (p_var 2) (p_pow p_int p_int)) a_nil)))) (pds_cons (pd_of (p_mod (p_callTy call_int1 on_int F.n_int bt_int (a_cons (p_add (p_mul (p_var 2) p_int) (p_mul p_int (p_var 1))) a_nil)) (p_add (p_pow p_int p_int) p_int))) (pds_cons (pd_of p_int) pds_nil))))))))
theorem cl__law_feed {P : Program} {K : PySem.W.Frag} {mg : Str → Option Value} {base : Heap} (F : Fx K mg) : Cl P TheW.w K mg base 1 "_law_feed" ["_law_script", "_law_k"] fm__law_feed :=
  cl_of (fw__law_feed F) fun _ _ _ _ _ _ us hl => match us, hl with | [_, _], _ => rfl

/-! ### _law_first -/
theorem sc__law_first : FnScope ["_law_web_here", "_law_told", "_law_got", "_law_turn", "_law_free", "_law_place", "_law_one_here", "_law_other"] ["_law_web_here", "_law_told"] (defScope (top 44)) := ⟨rfl, rfl, rfl, by decide +kernel, rfl, by decide +kernel, by decide +kernel⟩
theorem fw__law_first {P : Program} {K : PySem.W.Frag} {mg : Str → Option Value} {base : Heap} (F : Fx K mg) : ∃ f fd, DefT K "_law_first" (top 44) f fd ∧ mg "_law_first" = some (.ref f) ∧ FnG P TheW.w K mg base 1 f fd ["_law_web_here", "_law_told"] fm__law_first :=
  at_g (N := ["_law_web_here", "_law_told", "_law_got", "_law_turn", "_law_free", "_law_place", "_law_one_here", "_law_other"]) (ps := ["_law_web_here", "_law_told"]) (k := 0) (ms := ms__law_first) F.d__law_first sc__law_first fun f cdv A outer s H hr hg => by
  have sc := sc__law_first
  unfold ms__law_first
  exact (s_cons (s_set (i := 2) sc.nd (p_lst pds_nil))
  (s_cons (s_for (vs := [3]) PassesOwn.never (i_seq (p_ix (u65 hr) (p_var 0) p_int)) (g_name sc.nd (i := 3)) (s_cons (s_set (i := 4) sc.nd (p_lst pds_nil))
  (s_cons (s_for (vs := [5]) PassesOwn.never (i_seq (p_ix (u65 hr) (p_var 0) p_int)) (g_name sc.nd (i := 5)) (s_one (s_if (q_w (w_and (q_notin (u65 hr) (p_var 5) (p_var 2)) (w_and1 (q_eq (u64 hr) (p_lc (own := [("_law_one_here", 6), ("_law_other", 7)]) sc.nd (i_seq (p_var 1)) (blkOk_by (by kernel_rfl)) (fun _ _ _ _ _ => (g_tup (gs_cons (g_name sc.nd (i := 6)) (gs_cons (g_name sc.nd (i := 7)) gs_nil)))) (fun _ _ _ _ _ => (c_one (q_w (w_and (q_eq (u64 hr) (p_var 7) (p_var 5)) (w_and1 (q_notin (u65 hr) (p_var 6) (p_var 2))))))) (fun _ _ _ _ _ => pd_of (p_var 6))) (p_lst pds_nil))))) (s_one (s_expr (p_mt pa_list sl_append ty_append mt_append om_append (pds_cons (pd_of (p_var 5)) pds_nil) (i := 4)))) s_nil)))
  (s_cons (s_if (q_eq (u64 hr) (p_var 4) (p_lst pds_nil)) (s_one (s_ret p_non)) s_nil)
  (s_one (s_expr (p_mt pa_list sl_append ty_append mt_append om_append (pds_cons (pd_of (p_ix (u65 hr) (p_var 4) p_int)) pds_nil) (i := 2))))))))
  (s_one (s_ret (p_callTy call_tupleF on_tuple F.n_tuple bt_tuple (a_cons (p_var 2) a_nil))))))
theorem cl__law_first {P : Program} {K : PySem.W.Frag} {mg : Str → Option Value} {base : Heap} (F : Fx K mg) : Cl P TheW.w K mg base 1 "_law_first" ["_law_web_here", "_law_told"] fm__law_first :=
  cl_of (fw__law_first F) fun _ _ _ _ _ _ us hl => match us, hl with | [_, _], _ => rfl

/-! ### _law_swapped -/
theorem sc__law_swapped : FnScope ["_law_order_here", "_law_at"] ["_law_order_here", "_law_at"] (defScope (top 41)) := ⟨rfl, rfl, rfl, by decide +kernel, rfl, by decide +kernel, by decide +kernel⟩
theorem fw__law_swapped {P : Program} {K : PySem.W.Frag} {mg : Str → Option Value} {base : Heap} (F : Fx K mg) : ∃ f fd, DefT K "_law_swapped" (top 41) f fd ∧ mg "_law_swapped" = some (.ref f) ∧ FnG P TheW.w K mg base 1 f fd ["_law_order_here", "_law_at"] fm__law_swapped :=
  at_g (N := ["_law_order_here", "_law_at"]) (ps := ["_law_order_here", "_law_at"]) (k := 0) (ms := ms__law_swapped) F.d__law_swapped sc__law_swapped fun f cdv A outer s H hr hg => by
  have sc := sc__law_swapped
  unfold ms__law_swapped
  exact (s_one (s_ret (p_add (p_add (p_sl (p_var 0) o_none (o_some (p_var 1))) (p_tup (pds_cons (pd_of (p_ix (u65 hr) (p_var 0) (p_add (p_var 1) p_int))) (pds_cons (pd_of (p_ix (u65 hr) (p_var 0) (p_var 1))) pds_nil)))) (p_sl (p_var 0) (o_some (p_add (p_var 1) p_int)) o_none))))
theorem cl__law_swapped {P : Program} {K : PySem.W.Frag} {mg : Str → Option Value} {base : Heap} (F : Fx K mg) : Cl P TheW.w K mg base 1 "_law_swapped" ["_law_order_here", "_law_at"] fm__law_swapped :=
  cl_of (fw__law_swapped F) fun _ _ _ _ _ _ us hl => match us, hl with | [_, _], _ => rfl

/-! ### _law_apart -/
theorem sc__law_apart : FnScope ["_law_web_here", "_law_one_here", "_law_other"] ["_law_web_here", "_law_one_here", "_law_other"] (defScope (top 40)) := ⟨rfl, rfl, rfl, by decide +kernel, rfl, by decide +kernel, by decide +kernel⟩
theorem fw__law_apart {P : Program} {K : PySem.W.Frag} {mg : Str → Option Value} {base : Heap} (F : Fx K mg) : ∃ f fd, DefT K "_law_apart" (top 40) f fd ∧ mg "_law_apart" = some (.ref f) ∧ FnG P TheW.w K mg base 1 f fd ["_law_web_here", "_law_one_here", "_law_other"] fm__law_apart :=
  at_g (N := ["_law_web_here", "_law_one_here", "_law_other"]) (ps := ["_law_web_here", "_law_one_here", "_law_other"]) (k := 0) (ms := ms__law_apart) F.d__law_apart sc__law_apart fun f cdv A outer s H hr hg => by
  have sc := sc__law_apart
  unfold ms__law_apart
  exact (s_one (s_ret (p_and (p_notin (u65 hr) (p_tup (pds_cons (pd_of (p_var 1)) (pds_cons (pd_of (p_var 2)) pds_nil))) (p_ix (u65 hr) (p_var 0) p_int)) (p_one (p_notin (u65 hr) (p_tup (pds_cons (pd_of (p_var 2)) (pds_cons (pd_of (p_var 1)) pds_nil))) (p_ix (u65 hr) (p_var 0) p_int))))))
theorem cl__law_apart {P : Program} {K : PySem.W.Frag} {mg : Str → Option Value} {base : Heap} (F : Fx K mg) : Cl P TheW.w K mg base 1 "_law_apart" ["_law_web_here", "_law_one_here", "_law_other"] fm__law_apart :=
  cl_of (fw__law_apart F) fun _ _ _ _ _ _ us hl => match us, hl with | [_, _, _], _ => rfl

/-! ### _law_swaps -/
theorem sc__law_swaps : FnScope ["_law_web_here", "_law_order_here", "_law_at"] ["_law_web_here", "_law_order_here"] (defScope (top 42)) := ⟨rfl, rfl, rfl, by decide +kernel, rfl, by decide +kernel, by decide +kernel⟩
theorem fw__law_swaps {P : Program} {K : PySem.W.Frag} {mg : Str → Option Value} {base : Heap} (F : Fx K mg) : ∃ f fd, DefT K "_law_swaps" (top 42) f fd ∧ mg "_law_swaps" = some (.ref f) ∧ FnG P TheW.w K mg base 2 f fd ["_law_web_here", "_law_order_here"] fm__law_swaps :=
  at_g (N := ["_law_web_here", "_law_order_here", "_law_at"]) (ps := ["_law_web_here", "_law_order_here"]) (k := 1) (ms := ms__law_swaps) F.d__law_swaps sc__law_swaps fun f cdv A outer s H hr hg => by
  have sc := sc__law_swaps
  unfold ms__law_swaps
  exact (s_one (s_ret (p_lc (own := [("_law_at", 2)]) sc.nd (i_range1 F.n_range (pds_cons (pd_of (p_sub (p_callB call_len on_len F.n_len bt_len (a_cons (p_var 1) a_nil)) p_int)) pds_nil)) (blkOk_by (by kernel_rfl)) (fun _ _ _ _ _ => (g_name sc.nd (i := 2))) (fun _ _ _ _ _ => (c_one (q_val (p_cl (cl__law_apart F) hr hg (a_cons (p_var 0) (a_cons (p_ix (u65 hr) (p_var 1) (p_var 2)) (a_cons (p_ix (u65 hr) (p_var 1) (p_add (p_var 2) p_int)) a_nil))))))) (fun _ _ _ _ _ => pd_of (p_var 2)))))
theorem cl__law_swaps {P : Program} {K : PySem.W.Frag} {mg : Str → Option Value} {base : Heap} (F : Fx K mg) : Cl P TheW.w K mg base 2 "_law_swaps" ["_law_web_here", "_law_order_here"] fm__law_swaps :=
  cl_of (fw__law_swaps F) fun _ _ _ _ _ _ us hl => match us, hl with | [_, _], _ => rfl

/-! ### _law_like -/
theorem sc__law_like : FnScope ["_law_feed_here", "_law_web_here", "_law_order_here", "_law_many", "_law_path", "_law_turn", "_law_free"] ["_law_feed_here", "_law_web_here", "_law_order_here", "_law_many"] (defScope (top 43)) := ⟨rfl, rfl, rfl, by decide +kernel, rfl, by decide +kernel, by decide +kernel⟩
theorem fw__law_like {P : Program} {K : PySem.W.Frag} {mg : Str → Option Value} {base : Heap} (F : Fx K mg) : ∃ f fd, DefT K "_law_like" (top 43) f fd ∧ mg "_law_like" = some (.ref f) ∧ FnG P TheW.w K mg base 3 f fd ["_law_feed_here", "_law_web_here", "_law_order_here", "_law_many"] fm__law_like :=
  at_g (N := ["_law_feed_here", "_law_web_here", "_law_order_here", "_law_many", "_law_path", "_law_turn", "_law_free"]) (ps := ["_law_feed_here", "_law_web_here", "_law_order_here", "_law_many"]) (k := 2) (ms := ms__law_like) F.d__law_like sc__law_like fun f cdv A outer s H hr hg => by
  have sc := sc__law_like
  unfold ms__law_like
  exact (s_cons (s_set (i := 4) sc.nd (p_lst pds_nil))
  (s_cons (s_for (vs := [5]) PassesOwn.never (i_range1 F.n_range (pds_cons (pd_of (p_cl (cl__law_draw F) hr hg (a_cons (p_var 0) (a_cons (p_add (p_var 3) p_int) a_nil)))) pds_nil)) (g_name sc.nd (i := 5)) (s_cons (s_set (i := 6) sc.nd (p_cl (cl__law_swaps F) hr hg (a_cons (p_var 1) (a_cons (p_var 2) a_nil))))
  (s_one (s_if (q_ne (u64 hr) (p_var 6) (p_lst pds_nil)) (s_cons (s_expr (p_mt pa_list sl_append ty_append mt_append om_append (pds_cons (pd_of (p_cl (cl__law_one F) hr hg (a_cons (p_var 0) (a_cons (p_var 6) a_nil)))) pds_nil) (i := 4)))
  (s_one (s_set (i := 2) sc.nd (p_cl (cl__law_swapped F) hr hg (a_cons (p_var 2) (a_cons (p_ix (u65 hr) (p_var 4) (p_neg p_int)) a_nil)))))) s_nil))))
  (s_one (s_ret (p_tup (pds_cons (pd_of (p_var 4)) (pds_cons (pd_of (p_var 2)) pds_nil)))))))
theorem cl__law_like {P : Program} {K : PySem.W.Frag} {mg : Str → Option Value} {base : Heap} (F : Fx K mg) : Cl P TheW.w K mg base 3 "_law_like" ["_law_feed_here", "_law_web_here", "_law_order_here", "_law_many"] fm__law_like :=
  cl_of (fw__law_like F) fun _ _ _ _ _ _ us hl => match us, hl with | [_, _, _, _], _ => rfl

/-! ### _law_order -/
theorem sc__law_order : FnScope ["_law_feed_here", "_law_web_here"] ["_law_feed_here", "_law_web_here"] (defScope (top 35)) := ⟨rfl, rfl, rfl, by decide +kernel, rfl, by decide +kernel, by decide +kernel⟩
theorem fw__law_order {P : Program} {K : PySem.W.Frag} {mg : Str → Option Value} {base : Heap} (F : Fx K mg) : ∃ f fd, DefT K "_law_order" (top 35) f fd ∧ mg "_law_order" = some (.ref f) ∧ FnG P TheW.w K mg base 3 f fd ["_law_feed_here", "_law_web_here"] fm__law_order :=
  at_g (N := ["_law_feed_here", "_law_web_here"]) (ps := ["_law_feed_here", "_law_web_here"]) (k := 2) (ms := ms__law_order) F.d__law_order sc__law_order fun f cdv A outer s H hr hg => by
  have sc := sc__law_order
  unfold ms__law_order
  exact (s_one (s_ret (p_callTy call_tupleF on_tuple F.n_tuple bt_tuple (a_cons (p_cl (cl__law_mixed F) hr hg (a_cons (p_var 0) (a_cons (p_ix (u65 hr) (p_var 1) p_int) a_nil))) a_nil))))
theorem cl__law_order {P : Program} {K : PySem.W.Frag} {mg : Str → Option Value} {base : Heap} (F : Fx K mg) : Cl P TheW.w K mg base 3 "_law_order" ["_law_feed_here", "_law_web_here"] fm__law_order :=
  cl_of (fw__law_order F) fun _ _ _ _ _ _ us hl => match us, hl with | [_, _], _ => rfl

/-! ### _law_orders -/
theorem sc__law_orders : FnScope ["_law_web_here", "_law_got", "_law_turn", "_law_more", "_law_order_here", "_law_place"] ["_law_web_here"] (defScope (top 39)) := ⟨rfl, rfl, rfl, by decide +kernel, rfl, by decide +kernel, by decide +kernel⟩
theorem fw__law_orders {P : Program} {K : PySem.W.Frag} {mg : Str → Option Value} {base : Heap} (F : Fx K mg) : ∃ f fd, DefT K "_law_orders" (top 39) f fd ∧ mg "_law_orders" = some (.ref f) ∧ FnG P TheW.w K mg base 1 f fd ["_law_web_here"] fm__law_orders :=
  at_g (N := ["_law_web_here", "_law_got", "_law_turn", "_law_more", "_law_order_here", "_law_place"]) (ps := ["_law_web_here"]) (k := 0) (ms := ms__law_orders) F.d__law_orders sc__law_orders fun f cdv A outer s H hr hg => by
  have sc := sc__law_orders
  unfold ms__law_orders
  exact (s_cons (s_set (i := 1) sc.nd (p_lst (pds_cons (pd_of (p_tup pds_nil)) pds_nil)))
  (s_cons (s_for (vs := [2]) PassesOwn.never (i_seq (p_ix (u65 hr) (p_var 0) p_int)) (g_name sc.nd (i := 2)) (s_cons (s_set (i := 3) sc.nd (p_lst pds_nil))
  (s_cons (s_for (vs := [4]) PassesOwn.never (i_seq (p_var 1)) (g_name sc.nd (i := 4)) (s_one (s_expr (p_mt pa_list sl_extend ty_extend mt_extendQ om_extend (pds_cons (pd_of (p_lc (own := [("_law_place", 5)]) sc.nd (i_seq (p_ix (u65 hr) (p_var 0) p_int)) (blkOk_by (by kernel_rfl)) (fun _ _ _ _ _ => (g_name sc.nd (i := 5))) (fun _ _ _ _ _ => (c_one (q_notin (u65 hr) (p_var 5) (p_var 4)))) (fun _ _ _ _ _ => pd_of (p_add (p_var 4) (p_tup (pds_cons (pd_of (p_var 5)) pds_nil)))))) pds_nil) (i := 3)))))
  (s_one (s_set (i := 1) sc.nd (p_var 3))))))
  (s_one (s_ret (p_var 1)))))
theorem cl__law_orders {P : Program} {K : PySem.W.Frag} {mg : Str → Option Value} {base : Heap} (F : Fx K mg) : Cl P TheW.w K mg base 1 "_law_orders" ["_law_web_here"] fm__law_orders :=
  cl_of (fw__law_orders F) fun _ _ _ _ _ _ us hl => match us, hl with | [_], _ => rfl

/-! ### arrows_of -/
theorem sc_arrows_of : FnScope ["web", "order", "ranks", "rank", "place", "one", "other"] ["web", "order"] (defScope (top 1)) := ⟨rfl, rfl, rfl, by decide +kernel, rfl, by decide +kernel, by decide +kernel⟩
theorem fw_arrows_of {P : Program} {K : PySem.W.Frag} {mg : Str → Option Value} {base : Heap} (F : Fx K mg) : ∃ f fd, DefT K "arrows_of" (top 1) f fd ∧ mg "arrows_of" = some (.ref f) ∧ FnG P TheW.w K mg base 1 f fd ["web", "order"] fm_arrows_of :=
  at_g (N := ["web", "order", "ranks", "rank", "place", "one", "other"]) (ps := ["web", "order"]) (k := 0) (ms := ms_arrows_of) F.d_arrows_of sc_arrows_of fun f cdv A outer s H hr hg => by
  have sc := sc_arrows_of
  unfold ms_arrows_of
  exact (s_cons (s_set (i := 2) sc.nd (p_dc (own := [("rank", 3), ("place", 4)]) sc.nd (i_enumT F.n_enumerate (pds_cons (pd_of (p_var 1)) pds_nil)) (blkOk_by (by kernel_rfl)) (fun _ _ _ _ _ => (g_tupY (gs_cons (g_name sc.nd (i := 3)) (gs_cons (g_name sc.nd (i := 4)) gs_nil)))) (fun _ _ _ _ _ => c_nil) (fun _ _ _ _ _ => pd_of (p_var 4)) (fun _ _ _ _ _ => pd_of (p_var 3))))
  (s_one (s_ret (p_callTy call_tupleF on_tuple F.n_tuple bt_tuple (a_cons (p_lc (own := [("one", 5), ("other", 6)]) sc.nd (i_seq (p_ix (u65 hr) (p_var 0) p_int)) (blkOk_by (by kernel_rfl)) (fun _ _ _ _ _ => (g_tup (gs_cons (g_name sc.nd (i := 5)) (gs_cons (g_name sc.nd (i := 6)) gs_nil)))) (fun _ _ _ _ _ => c_nil) (fun _ _ _ _ _ => pd_of (p_if (q_lt (p_ix (u65 hr) (p_var 2) (p_var 5)) (p_ix (u65 hr) (p_var 2) (p_var 6))) (p_tup (pds_cons (pd_of (p_var 5)) (pds_cons (pd_of (p_var 6)) pds_nil))) (p_tup (pds_cons (pd_of (p_var 6)) (pds_cons (pd_of (p_var 5)) pds_nil)))))) a_nil)))))
theorem cl_arrows_of {P : Program} {K : PySem.W.Frag} {mg : Str → Option Value} {base : Heap} (F : Fx K mg) : Cl P TheW.w K mg base 1 "arrows_of" ["web", "order"] fm_arrows_of :=
  cl_of (fw_arrows_of F) fun _ _ _ _ _ _ us hl => match us, hl with | [_, _], _ => rfl

/-! ### are_unlike -/
theorem sc_are_unlike : FnScope ["things"] ["things"] (defScope (top 14)) := ⟨rfl, rfl, rfl, by decide +kernel, rfl, by decide +kernel, by decide +kernel⟩
theorem fw_are_unlike {P : Program} {K : PySem.W.Frag} {mg : Str → Option Value} {base : Heap} (F : Fx K mg) : ∃ f fd, DefT K "are_unlike" (top 14) f fd ∧ mg "are_unlike" = some (.ref f) ∧ FnG P TheW.w K mg base 1 f fd ["things"] fm_are_unlike :=
  at_g (N := ["things"]) (ps := ["things"]) (k := 0) (ms := ms_are_unlike) F.d_are_unlike sc_are_unlike fun f cdv A outer s H hr hg => by
  have sc := sc_are_unlike
  unfold ms_are_unlike
  exact (s_one (s_ret (p_eq (u64 hr) (p_lenSet (u3 hr) F.n_len F.n_set (p_var 0)) (p_callB call_len on_len F.n_len bt_len (a_cons (p_var 0) a_nil)))))
theorem cl_are_unlike {P : Program} {K : PySem.W.Frag} {mg : Str → Option Value} {base : Heap} (F : Fx K mg) : Cl P TheW.w K mg base 1 "are_unlike" ["things"] fm_are_unlike :=
  cl_of (fw_are_unlike F) fun _ _ _ _ _ _ us hl => match us, hl with | [_], _ => rfl

/-! ### are_places -/
theorem sc_are_places : FnScope ["places", "thing", "place"] ["places", "thing"] (defScope (top 18)) := ⟨rfl, rfl, rfl, by decide +kernel, rfl, by decide +kernel, by decide +kernel⟩
theorem fw_are_places {P : Program} {K : PySem.W.Frag} {mg : Str → Option Value} {base : Heap} (F : Fx K mg) : ∃ f fd, DefT K "are_places" (top 18) f fd ∧ mg "are_places" = some (.ref f) ∧ FnG P TheW.w K mg base 2 f fd ["places", "thing"] fm_are_places :=
  at_g (N := ["places", "thing", "place"]) (ps := ["places", "thing"]) (k := 1) (ms := ms_are_places) F.d_are_places sc_are_places fun f cdv A outer s H hr hg => by
  have sc := sc_are_places
  unfold ms_are_places
  exact (s_one (s_ret (p_and (p_callB (cr_all rfl) on_all F.n_all bt_all (a_cons (p_lc (own := [("place", 2)]) sc.nd (i_seq (p_var 1)) (blkOk_by (by kernel_rfl)) (fun _ _ _ _ _ => (g_name sc.nd (i := 2))) (fun _ _ _ _ _ => c_nil) (fun _ _ _ _ _ => pd_of (p_and (p_isi "str" (by decide) F.n_str bt_str F.n_isinstance (p_var 2)) (p_one (p_in (u65 hr) (p_var 2) (p_var 0)))))) a_nil)) (p_one (p_cl (cl_are_unlike F) hr hg (a_cons (p_var 1) a_nil))))))
theorem cl_are_places {P : Program} {K : PySem.W.Frag} {mg : Str → Option Value} {base : Heap} (F : Fx K mg) : Cl P TheW.w K mg base 2 "are_places" ["places", "thing"] fm_are_places :=
  cl_of (fw_are_places F) fun _ _ _ _ _ _ us hl => match us, hl with | [_, _], _ => rfl

/-! ### is_row_of -/
theorem sc_is_row_of : FnScope ["thing", "least", "most"] ["thing", "least", "most"] (defScope (top 13)) := ⟨rfl, rfl, rfl, by decide +kernel, rfl, by decide +kernel, by decide +kernel⟩
theorem fw_is_row_of {P : Program} {K : PySem.W.Frag} {mg : Str → Option Value} {base : Heap} (F : Fx K mg) : ∃ f fd, DefT K "is_row_of" (top 13) f fd ∧ mg "is_row_of" = some (.ref f) ∧ FnG P TheW.w K mg base 1 f fd ["thing", "least", "most"] fm_is_row_of :=
  at_g (N := ["thing", "least", "most"]) (ps := ["thing", "least", "most"]) (k := 0) (ms := ms_is_row_of) F.d_is_row_of sc_is_row_of fun f cdv A outer s H hr hg => by
  have sc := sc_is_row_of
  unfold ms_is_row_of
  exact (s_one (s_ret (p_and (p_isi "tuple" (by decide) F.n_tuple bt_tuple F.n_isinstance (p_var 0)) (p_one (p_chain op_le op_le kLe kLe (p_var 1) (p_callB call_len on_len F.n_len bt_len (a_cons (p_var 0) a_nil)) (p_var 2))))))
theorem cl_is_row_of {P : Program} {K : PySem.W.Frag} {mg : Str → Option Value} {base : Heap} (F : Fx K mg) : Cl P TheW.w K mg base 1 "is_row_of" ["thing", "least", "most"] fm_is_row_of :=
  cl_of (fw_is_row_of F) fun _ _ _ _ _ _ us hl => match us, hl with | [_, _, _], _ => rfl

/-! ### is_order -/
theorem sc_is_order : FnScope ["web", "thing"] ["web", "thing"] (defScope (top 22)) := ⟨rfl, rfl, rfl, by decide +kernel, rfl, by decide +kernel, by decide +kernel⟩
theorem fw_is_order {P : Program} {K : PySem.W.Frag} {mg : Str → Option Value} {base : Heap} (F : Fx K mg) : ∃ f fd, DefT K "is_order" (top 22) f fd ∧ mg "is_order" = some (.ref f) ∧ FnG P TheW.w K mg base 3 f fd ["web", "thing"] fm_is_order :=
  at_g (N := ["web", "thing"]) (ps := ["web", "thing"]) (k := 2) (ms := ms_is_order) F.d_is_order sc_is_order fun f cdv A outer s H hr hg => by
  have sc := sc_is_order
  unfold ms_is_order
  exact (s_one (s_ret (p_and (p_cl (cl_is_row_of F) hr hg (a_cons (p_var 1) (a_cons (p_callB call_len on_len F.n_len bt_len (a_cons (p_ix (u65 hr) (p_var 0) p_int) a_nil)) (a_cons (p_callB call_len on_len F.n_len bt_len (a_cons (p_ix (u65 hr) (p_var 0) p_int) a_nil)) a_nil)))) (p_one (p_cl (cl_are_places F) hr hg (a_cons (p_ix (u65 hr) (p_var 0) p_int) (a_cons (p_var 1) a_nil)))))))
theorem cl_is_order {P : Program} {K : PySem.W.Frag} {mg : Str → Option Value} {base : Heap} (F : Fx K mg) : Cl P TheW.w K mg base 3 "is_order" ["web", "thing"] fm_is_order :=
  cl_of (fw_is_order F) fun _ _ _ _ _ _ us hl => match us, hl with | [_, _], _ => rfl

/-! ### need_order -/
theorem sc_need_order : FnScope ["web", "order"] ["web", "order"] (defScope (top 23)) := ⟨rfl, rfl, rfl, by decide +kernel, rfl, by decide +kernel, by decide +kernel⟩
theorem fw_need_order {P : Program} {K : PySem.W.Frag} {mg : Str → Option Value} {base : Heap} (F : Fx K mg) : ∃ f fd, DefT K "need_order" (top 23) f fd ∧ mg "need_order" = some (.ref f) ∧ FnG P TheW.w K mg base 4 f fd ["web", "order"] fm_need_order :=
  at_g (N := ["web", "order"]) (ps := ["web", "order"]) (k := 3) (ms := ms_need_order) F.d_need_order sc_need_order fun f cdv A outer s H hr hg => by
  have sc := sc_need_order
  unfold ms_need_order
  exact (s_one (s_if (q_not (q_val (p_cl (cl_is_order F) hr hg (a_cons (p_var 0) (a_cons (p_var 1) a_nil))))) (s_one s_never) s_nil))
theorem cl_need_order {P : Program} {K : PySem.W.Frag} {mg : Str → Option Value} {base : Heap} (F : Fx K mg) : Cl P TheW.w K mg base 4 "need_order" ["web", "order"] fm_need_order :=
  cl_of (fw_need_order F) fun _ _ _ _ _ _ us hl => match us, hl with | [_, _], _ => rfl

/-! ### is_name -/
theorem sc_is_name : FnScope ["thing", "sign"] ["thing"] (defScope (top 12)) := ⟨rfl, rfl, rfl, by decide +kernel, rfl, by decide +kernel, by decide +kernel⟩
theorem fw_is_name {P : Program} {K : PySem.W.Frag} {mg : Str → Option Value} {base : Heap} (F : Fx K mg) : ∃ f fd, DefT K "is_name" (top 12) f fd ∧ mg "is_name" = some (.ref f) ∧ FnG P TheW.w K mg base 1 f fd ["thing"] fm_is_name :=
  at_g (N := ["thing", "sign"]) (ps := ["thing"]) (k := 0) (ms := ms_is_name) F.d_is_name sc_is_name fun f cdv A outer s H hr hg => by
  have sc := sc_is_name
  unfold ms_is_name
  exact (s_cons (s_if (q_w (w_or (q_not (q_val (p_isi "str" (by decide) F.n_str bt_str F.n_isinstance (p_var 0)))) (w_or (q_not (q_chain op_le op_le kLe kLe p_int (p_callB call_len on_len F.n_len bt_len (a_cons (p_var 0) a_nil)) (p_gI F.c_MOST_SIGNS))) (w_or1 (q_notin (u65 hr) (p_ix (u65 hr) (p_var 0) p_int) (p_gS F.c_LETTERS)))))) (s_one (s_ret p_bl)) s_nil)
  (s_one (s_ret (p_callB (cr_all rfl) on_all F.n_all bt_all (a_cons (p_lc (own := [("sign", 1)]) sc.nd (i_seq (p_var 0)) (blkOk_by (by kernel_rfl)) (fun _ _ _ _ _ => (g_name sc.nd (i := 1))) (fun _ _ _ _ _ => c_nil) (fun _ _ _ _ _ => pd_of (p_or (p_in (u65 hr) (p_var 1) (p_gS F.c_LETTERS)) (p_one (p_in (u65 hr) (p_var 1) (p_gS F.c_DIGITS)))))) a_nil)))))
theorem cl_is_name {P : Program} {K : PySem.W.Frag} {mg : Str → Option Value} {base : Heap} (F : Fx K mg) : Cl P TheW.w K mg base 1 "is_name" ["thing"] fm_is_name :=
  cl_of (fw_is_name F) fun _ _ _ _ _ _ us hl => match us, hl with | [_], _ => rfl

/-! ### is_road -/
theorem sc_is_road : FnScope ["places", "thing"] ["places", "thing"] (defScope (top 19)) := ⟨rfl, rfl, rfl, by decide +kernel, rfl, by decide +kernel, by decide +kernel⟩
theorem fw_is_road {P : Program} {K : PySem.W.Frag} {mg : Str → Option Value} {base : Heap} (F : Fx K mg) : ∃ f fd, DefT K "is_road" (top 19) f fd ∧ mg "is_road" = some (.ref f) ∧ FnG P TheW.w K mg base 3 f fd ["places", "thing"] fm_is_road :=
  at_g (N := ["places", "thing"]) (ps := ["places", "thing"]) (k := 2) (ms := ms_is_road) F.d_is_road sc_is_road fun f cdv A outer s H hr hg => by
  have sc := sc_is_road
  unfold ms_is_road
  exact (s_one (s_ret (p_and (p_cl (cl_is_row_of F) hr hg (a_cons (p_var 1) (a_cons p_int (a_cons p_int a_nil)))) (p_one (p_cl (cl_are_places F) hr hg (a_cons (p_var 0) (a_cons (p_var 1) a_nil)))))))
theorem cl_is_road {P : Program} {K : PySem.W.Frag} {mg : Str → Option Value} {base : Heap} (F : Fx K mg) : Cl P TheW.w K mg base 3 "is_road" ["places", "thing"] fm_is_road :=
  cl_of (fw_is_road F) fun _ _ _ _ _ _ us hl => match us, hl with | [_, _], _ => rfl

/-! ### is_web_form -/
theorem sc_is_web_form : FnScope ["thing", "places", "roads", "place", "road"] ["thing"] (defScope (top 20)) := ⟨rfl, rfl, rfl, by decide +kernel, rfl, by decide +kernel, by decide +kernel⟩
theorem fw_is_web_form {P : Program} {K : PySem.W.Frag} {mg : Str → Option Value} {base : Heap} (F : Fx K mg) : ∃ f fd, DefT K "is_web_form" (top 20) f fd ∧ mg "is_web_form" = some (.ref f) ∧ FnG P TheW.w K mg base 4 f fd ["thing"] fm_is_web_form :=
  at_g (N := ["thing", "places", "roads", "place", "road"]) (ps := ["thing"]) (k := 3) (ms := ms_is_web_form) F.d_is_web_form sc_is_web_form fun f cdv A outer s H hr hg => by
  have sc := sc_is_web_form
  unfold ms_is_web_form
  exact (s_cons (s_if (q_w (w_or (q_not (q_val (p_cl (cl_is_row_of F) hr hg (a_cons (p_var 0) (a_cons p_int (a_cons p_int a_nil)))))) (w_or1 (q_not (q_val (p_cl (cl_is_row_of F) hr hg (a_cons (p_ix (u65 hr) (p_var 0) p_int) (a_cons p_int (a_cons (p_gI F.c_MOST_PLACES) a_nil))))))))) (s_one (s_ret p_bl)) s_nil)
  (s_cons (s_asg (vs := [1, 2]) (p_var 0) (g_tup (gs_cons (g_name sc.nd (i := 1)) (gs_cons (g_name sc.nd (i := 2)) gs_nil))))
  (s_cons (s_if (q_w (w_or (q_not (q_val (p_callB (cr_all rfl) on_all F.n_all bt_all (a_cons (p_lc (own := [("place", 3)]) sc.nd (i_seq (p_var 1)) (blkOk_by (by kernel_rfl)) (fun _ _ _ _ _ => (g_name sc.nd (i := 3))) (fun _ _ _ _ _ => c_nil) (fun _ _ _ _ _ => pd_of (p_cl (cl_is_name F) hr hg (a_cons (p_var 3) a_nil)))) a_nil)))) (w_or1 (q_not (q_val (p_cl (cl_are_unlike F) hr hg (a_cons (p_var 1) a_nil))))))) (s_one (s_ret p_bl)) s_nil)
  (s_cons (s_if (q_w (w_or (q_not (q_val (p_cl (cl_is_row_of F) hr hg (a_cons (p_var 2) (a_cons p_int (a_cons (p_gI F.c_MOST_ROADS) a_nil)))))) (w_or1 (q_not (q_val (p_callB (cr_all rfl) on_all F.n_all bt_all (a_cons (p_lc (own := [("road", 4)]) sc.nd (i_seq (p_var 2)) (blkOk_by (by kernel_rfl)) (fun _ _ _ _ _ => (g_name sc.nd (i := 4))) (fun _ _ _ _ _ => c_nil) (fun _ _ _ _ _ => pd_of (p_cl (cl_is_road F) hr hg (a_cons (p_var 1) (a_cons (p_var 4) a_nil))))) a_nil))))))) (s_one (s_ret p_bl)) s_nil)
  (s_one (s_ret (p_cl (cl_are_unlike F) hr hg (a_cons (p_lc (own := [("road", 4)]) sc.nd (i_seq (p_var 2)) (blkOk_by (by kernel_rfl)) (fun _ _ _ _ _ => (g_name sc.nd (i := 4))) (fun _ _ _ _ _ => c_nil) (fun _ _ _ _ _ => pd_of (p_callTy call_tupleF on_tuple F.n_tuple bt_tuple (a_cons (p_callB (call_or2 call_sortQ cr_sortedI) on_sorted F.n_sorted bt_sorted (a_cons (p_var 4) a_nil)) a_nil)))) a_nil))))))))
theorem cl_is_web_form {P : Program} {K : PySem.W.Frag} {mg : Str → Option Value} {base : Heap} (F : Fx K mg) : Cl P TheW.w K mg base 4 "is_web_form" ["thing"] fm_is_web_form :=
  cl_of (fw_is_web_form F) fun _ _ _ _ _ _ us hl => match us, hl with | [_], _ => rfl

/-! ### need_web -/
theorem sc_need_web : FnScope ["web"] ["web"] (defScope (top 21)) := ⟨rfl, rfl, rfl, by decide +kernel, rfl, by decide +kernel, by decide +kernel⟩
theorem fw_need_web {P : Program} {K : PySem.W.Frag} {mg : Str → Option Value} {base : Heap} (F : Fx K mg) : ∃ f fd, DefT K "need_web" (top 21) f fd ∧ mg "need_web" = some (.ref f) ∧ FnG P TheW.w K mg base 5 f fd ["web"] fm_need_web :=
  at_g (N := ["web"]) (ps := ["web"]) (k := 4) (ms := ms_need_web) F.d_need_web sc_need_web fun f cdv A outer s H hr hg => by
  have sc := sc_need_web
  unfold ms_need_web
  exact (s_one (s_if (q_not (q_val (p_cl (cl_is_web_form F) hr hg (a_cons (p_var 0) a_nil)))) (s_one s_never) s_nil))
theorem cl_need_web {P : Program} {K : PySem.W.Frag} {mg : Str → Option Value} {base : Heap} (F : Fx K mg) : Cl P TheW.w K mg base 5 "need_web" ["web"] fm_need_web :=
  cl_of (fw_need_web F) fun _ _ _ _ _ _ us hl => match us, hl with | [_], _ => rfl

/-! ### need_two_orders -/
theorem sc_need_two_orders : FnScope ["web", "order", "other"] ["web", "order", "other"] (defScope (top 25)) := ⟨rfl, rfl, rfl, by decide +kernel, rfl, by decide +kernel, by decide +kernel⟩
theorem fw_need_two_orders {P : Program} {K : PySem.W.Frag} {mg : Str → Option Value} {base : Heap} (F : Fx K mg) : ∃ f fd, DefT K "need_two_orders" (top 25) f fd ∧ mg "need_two_orders" = some (.ref f) ∧ FnG P TheW.w K mg base 6 f fd ["web", "order", "other"] fm_need_two_orders :=
  at_g (N := ["web", "order", "other"]) (ps := ["web", "order", "other"]) (k := 5) (ms := ms_need_two_orders) F.d_need_two_orders sc_need_two_orders fun f cdv A outer s H hr hg => by
  have sc := sc_need_two_orders
  unfold ms_need_two_orders
  exact (s_cons (s_expr (p_cl (cl_need_web F) hr hg (a_cons (p_var 0) a_nil)))
  (s_cons (s_expr (p_cl (cl_need_order F) hr hg (a_cons (p_var 0) (a_cons (p_var 1) a_nil))))
  (s_one (s_expr (p_cl (cl_need_order F) hr hg (a_cons (p_var 0) (a_cons (p_var 2) a_nil)))))))
theorem cl_need_two_orders {P : Program} {K : PySem.W.Frag} {mg : Str → Option Value} {base : Heap} (F : Fx K mg) : Cl P TheW.w K mg base 6 "need_two_orders" ["web", "order", "other"] fm_need_two_orders :=
  cl_of (fw_need_two_orders F) fun _ _ _ _ _ _ us hl => match us, hl with | [_, _, _], _ => rfl

/-! ### are_alike -/
theorem sc_are_alike : FnScope ["web", "order", "other"] ["web", "order", "other"] (defScope (top 26)) := ⟨rfl, rfl, rfl, by decide +kernel, rfl, by decide +kernel, by decide +kernel⟩
theorem fw_are_alike {P : Program} {K : PySem.W.Frag} {mg : Str → Option Value} {base : Heap} (F : Fx K mg) : ∃ f fd, DefT K "are_alike" (top 26) f fd ∧ mg "are_alike" = some (.ref f) ∧ FnG P TheW.w K mg base 7 f fd ["web", "order", "other"] fm_are_alike :=
  at_g (N := ["web", "order", "other"]) (ps := ["web", "order", "other"]) (k := 6) (ms := ms_are_alike) F.d_are_alike sc_are_alike fun f cdv A outer s H hr hg => by
  have sc := sc_are_alike
  unfold ms_are_alike
  exact (s_cons (s_expr (p_cl (cl_need_two_orders F) hr hg (a_cons (p_var 0) (a_cons (p_var 1) (a_cons (p_var 2) a_nil)))))
  (s_one (s_ret (p_eq (u64 hr) (p_cl (cl_arrows_of F) hr hg (a_cons (p_var 0) (a_cons (p_var 1) a_nil))) (p_cl (cl_arrows_of F) hr hg (a_cons (p_var 0) (a_cons (p_var 2) a_nil)))))))
theorem cl_are_alike {P : Program} {K : PySem.W.Frag} {mg : Str → Option Value} {base : Heap} (F : Fx K mg) : Cl P TheW.w K mg base 7 "are_alike" ["web", "order", "other"] fm_are_alike :=
  cl_of (fw_are_alike F) fun _ _ _ _ _ _ us hl => match us, hl with | [_, _, _], _ => rfl

/-! ### ahead_of -/
theorem sc_ahead_of : FnScope ["web", "arrows", "place", "one", "other"] ["web", "arrows"] (defScope (top 2)) := ⟨rfl, rfl, rfl, by decide +kernel, rfl, by decide +kernel, by decide +kernel⟩
theorem fw_ahead_of {P : Program} {K : PySem.W.Frag} {mg : Str → Option Value} {base : Heap} (F : Fx K mg) : ∃ f fd, DefT K "ahead_of" (top 2) f fd ∧ mg "ahead_of" = some (.ref f) ∧ FnG P TheW.w K mg base 1 f fd ["web", "arrows"] fm_ahead_of :=
  at_g (N := ["web", "arrows", "place", "one", "other"]) (ps := ["web", "arrows"]) (k := 0) (ms := ms_ahead_of) F.d_ahead_of sc_ahead_of fun f cdv A outer s H hr hg => by
  have sc := sc_ahead_of
  unfold ms_ahead_of
  exact (s_one (s_ret (p_dc (own := [("place", 2)]) sc.nd (i_seq (p_ix (u65 hr) (p_var 0) p_int)) (blkOk_by (by kernel_rfl)) (fun _ _ _ _ _ => (g_name sc.nd (i := 2))) (fun _ _ _ _ _ => c_nil) (fun _ _ _ _ _ => pd_of (p_var 2)) (fun _ _ _ _ _ => pd_of (p_callTy call_tupleF on_tuple F.n_tuple bt_tuple (a_cons (p_lc (own := [("one", 3), ("other", 4)]) sc.nd (i_seq (p_var 1)) (blkOk_by (by kernel_rfl)) (fun _ _ _ _ _ => (g_tup (gs_cons (g_name sc.nd (i := 3)) (gs_cons (g_name sc.nd (i := 4)) gs_nil)))) (fun _ _ _ _ _ => (c_one (q_eq (u64 hr) (p_var 4) (p_var 2)))) (fun _ _ _ _ _ => pd_of (p_var 3))) a_nil))))))
theorem cl_ahead_of {P : Program} {K : PySem.W.Frag} {mg : Str → Option Value} {base : Heap} (F : Fx K mg) : Cl P TheW.w K mg base 1 "ahead_of" ["web", "arrows"] fm_ahead_of :=
  cl_of (fw_ahead_of F) fun _ _ _ _ _ _ us hl => match us, hl with | [_, _], _ => rfl

/-! ### first_order -/
theorem sc_first_order : FnScope ["web", "arrows", "ahead", "left", "found", "free", "place", "one"] ["web", "arrows"] (defScope (top 3)) := ⟨rfl, rfl, rfl, by decide +kernel, rfl, by decide +kernel, by decide +kernel⟩
theorem fw_first_order {P : Program} {K : PySem.W.Frag} {mg : Str → Option Value} {base : Heap} (F : Fx K mg) : ∃ f fd, DefT K "first_order" (top 3) f fd ∧ mg "first_order" = some (.ref f) ∧ FnG P TheW.w K mg base 2 f fd ["web", "arrows"] fm_first_order :=
  at_g (N := ["web", "arrows", "ahead", "left", "found", "free", "place", "one"]) (ps := ["web", "arrows"]) (k := 1) (ms := ms_first_order) F.d_first_order sc_first_order fun f cdv A outer s H hr hg => by
  have sc := sc_first_order
  unfold ms_first_order
  exact (s_cons (s_set (i := 2) sc.nd (p_cl (cl_ahead_of F) hr hg (a_cons (p_var 0) (a_cons (p_var 1) a_nil))))
  (s_cons (s_set (i := 3) sc.nd (p_callTy call_list_of on_list F.n_list bt_list (a_cons (p_ix (u65 hr) (p_var 0) p_int) a_nil)))
  (s_cons (s_set (i := 4) sc.nd (p_lst pds_nil))
  (s_cons (s_while 1000 PassesOwn.never (q_ne (u64 hr) (p_var 3) (p_lst pds_nil)) (s_cons (s_setLcO (i := 5) (own := [("place", 6)]) sc.nd i_own (blkOk_by (by kernel_rfl)) (fun _ _ _ _ _ => (g_name sc.nd (i := 6))) (fun _ _ _ _ _ => (c_one (q_val (p_callB (cr_all rfl) on_all F.n_all bt_all (a_cons (p_lc (X := Cx.blk _ _ _ _ _ _) (own := [("one", 7)]) sc.nd (i_seq (p_ix (u65 hr) (p_var 2) (p_var 6))) (blkOk_by (by kernel_rfl)) (fun _ _ _ _ _ => (g_name sc.nd (i := 7))) (fun _ _ _ _ _ => c_nil) (fun _ _ _ _ _ => pd_of (p_in (u65 hr) (p_var 7) (p_var 4)))) a_nil))))) (fun _ _ _ _ _ => pd_of (p_var 6)))
  (s_cons (s_if (q_eq (u64 hr) (p_var 5) (p_lst pds_nil)) (s_one (s_ret p_non)) s_nil)
  (s_cons (s_expr (p_mt pa_list sl_append ty_append mt_append om_append (pds_cons (pd_of (p_ix (u65 hr) (p_var 5) p_int)) pds_nil) (i := 4)))
  (s_one (s_expr (p_mt pa_list sl_remove ty_remove PL.mt_remove om_remove (pds_cons (pd_of (p_ix (u65 hr) (p_var 5) p_int)) pds_nil) (i := 3))))))))
  (s_one (s_ret (p_callTy call_tupleF on_tuple F.n_tuple bt_tuple (a_cons (p_var 4) a_nil))))))))
theorem cl_first_order {P : Program} {K : PySem.W.Frag} {mg : Str → Option Value} {base : Heap} (F : Fx K mg) : Cl P TheW.w K mg base 2 "first_order" ["web", "arrows"] fm_first_order :=
  cl_of (fw_first_order F) fun _ _ _ _ _ _ us hl => match us, hl with | [_, _], _ => rfl

/-! ### first_alike -/
theorem sc_first_alike : FnScope ["web", "order"] ["web", "order"] (defScope (top 27)) := ⟨rfl, rfl, rfl, by decide +kernel, rfl, by decide +kernel, by decide +kernel⟩
theorem fw_first_alike {P : Program} {K : PySem.W.Frag} {mg : Str → Option Value} {base : Heap} (F : Fx K mg) : ∃ f fd, DefT K "first_alike" (top 27) f fd ∧ mg "first_alike" = some (.ref f) ∧ FnG P TheW.w K mg base 6 f fd ["web", "order"] fm_first_alike :=
  at_g (N := ["web", "order"]) (ps := ["web", "order"]) (k := 5) (ms := ms_first_alike) F.d_first_alike sc_first_alike fun f cdv A outer s H hr hg => by
  have sc := sc_first_alike
  unfold ms_first_alike
  exact (s_cons (s_expr (p_cl (cl_need_web F) hr hg (a_cons (p_var 0) a_nil)))
  (s_cons (s_expr (p_cl (cl_need_order F) hr hg (a_cons (p_var 0) (a_cons (p_var 1) a_nil))))
  (s_one (s_ret (p_cl (cl_first_order F) hr hg (a_cons (p_var 0) (a_cons (p_fr (p_cl (cl_arrows_of F) hr hg (a_cons (p_var 0) (a_cons (p_var 1) a_nil)))) a_nil)))))))
theorem cl_first_alike {P : Program} {K : PySem.W.Frag} {mg : Str → Option Value} {base : Heap} (F : Fx K mg) : Cl P TheW.w K mg base 6 "first_alike" ["web", "order"] fm_first_alike :=
  cl_of (fw_first_alike F) fun _ _ _ _ _ _ us hl => match us, hl with | [_, _], _ => rfl
theorem kw_first_alike_0 {P : Program} {K : PySem.W.Frag} {mg : Str → Option Value} {base : Heap} (F : Fx K mg) : ClK P TheW.w K mg base 6 "first_alike" ["web", "order"] ["order", "web"] [1, 0] fm_first_alike :=
  clK_of (fw_first_alike F) fun _ _ _ _ _ _ us hl => match us, hl with | [_, _], _ => rfl

/-! ### law -/
def ms_law : MS := (mSeq (mFor (mRange1 (mDsCons (mF (mCallN gMax2 (mACons (mC (.int 1)) (mACons (mCallN gMin2 (mACons (mCallN gLen (mACons (mVar 0) mANil)) (mACons (mC (.int 3)) mANil))) mANil)))) mDsNil)) (gN 1) (mSeq (mSet 2 (mCall fm__law_feed (mACons (mVar 0) (mACons (mVar 1) mANil))))
  (mSeq (mSet 3 (mCall fm__law_any_web (mACons (mVar 2) (mACons (mC (.int 5)) mANil))))
  (mSeq (mSet 4 mDic0)
  (mSeq (mFor (mSeqI (mCall fm__law_orders (mACons (mVar 3) mANil))) (gN 5) (mSeq (mDrop (mMtT 4 gSetd (mDsCons (mF (mCall fm__law_arrows (mACons (mVar 3) (mACons (mVar 5) mANil)))) (mDsCons (mF (mVar 5)) mDsNil))))
  (mIfS (mB (m2 gNe (mCallN gReprE (mACons (mCall fm_first_alike (mACons (mVar 3) (mACons (mOf (mF (mVar 5))) mANil))) mANil)) (mCallN gReprE (mACons (m2 gIx (mVar 4) (mCall fm__law_arrows (mACons (mVar 3) (mACons (mVar 5) mANil)))) mANil)))) (mRet (mC (.bool false))) mNx)))
  (mSeq (mSet 3 (mCall fm__law_any_web (mACons (mVar 2) (mACons (mC (.int 8)) mANil))))
  (mSeq (mSet 5 (mCall fm__law_order (mACons (mVar 2) (mACons (mVar 3) mANil))))
  (mSeq (mSet 6 (mCall fm__law_first (mACons (mVar 3) (mACons (mOf (mF (mCall fm__law_arrows (mACons (mVar 3) (mACons (mVar 5) mANil))))) mANil))))
  (mSeq (mFor (mRange1 (mDsCons (mF (mC (.int 4))) mDsNil)) (gN 7) (mSeq (mSet 8 (m2 gIx (mCall fm__law_like (mACons (mVar 2) (mACons (mVar 3) (mACons (mVar 5) (mACons (mC (.int 12)) mANil))))) (mC (.int 1))))
  (mIfS (mOr (mB (m2 gNe (mCallN gReprE (mACons (mCall fm_first_alike (mACons (mVar 3) (mACons (mOf (mF (mVar 8))) mANil))) mANil)) (mCallN gReprE (mACons (mVar 6) mANil)))) (mB (m2 gNe (mCallN gReprE (mACons (mCallK fm_first_alike 2 [1, 0] (mACons (mOf (mF (mVar 8))) (mACons (mVar 3) mANil))) mANil)) (mCallN gReprE (mACons (mVar 6) mANil))))) (mRet (mC (.bool false))) mNx)))
  (mIfS (mOr (mB (m2 gNe (mCall fm_first_alike (mACons (mVar 3) (mACons (mOf (mF (mVar 6))) mANil))) (mVar 6))) (mB (m2 gNotB (mCall fm_are_alike (mACons (mVar 3) (mACons (mOf (mF (mVar 6))) (mACons (mOf (mF (mVar 5))) mANil)))) (mC (.bool true))))) (mRet (mC (.bool false))) mNx))))))))))
  (mRet (mC (.bool true))))
def fm_law : ME := mFn 1 9 ms_law
theorem sc_law : FnScope ["_law_script", "_law_k", "_law_feed_here", "_law_web_here", "_law_firsts", "_law_order_here", "_law_due", "_law_turn", "_law_other"] ["_law_script"] (defScope (top 45)) := ⟨rfl, rfl, rfl, by decide +kernel, rfl, by decide +kernel, by decide +kernel⟩
theorem fx_law {P : Program} {K : PySem.W.Frag} {mg : Str → Option Value} {base : Heap} (F : Fx K mg) : ∃ f fd, DefT K "law" (top 45) f fd ∧ mg "law" = some (.ref f) ∧ FnG P TheW.w K mg base 8 f fd ["_law_script"] fm_law :=
  at_g (N := ["_law_script", "_law_k", "_law_feed_here", "_law_web_here", "_law_firsts", "_law_order_here", "_law_due", "_law_turn", "_law_other"]) (ps := ["_law_script"]) (k := 7) (ms := ms_law) F.d_law sc_law fun f cdv A outer s H hr hg => by
  have sc := sc_law
  unfold ms_law
  exact (s_cons (s_for (vs := [1]) PassesOwn.never (i_range1 F.n_range (pds_cons (pd_of (p_callB (call_max2 rfl) on_max2 F.n_max bt_max (a_cons p_int (a_cons (p_callB (call_min2 rfl) on_min2 F.n_min bt_min (a_cons (p_callB call_len on_len F.n_len bt_len (a_cons (p_var 0) a_nil)) (a_cons p_int a_nil))) a_nil)))) pds_nil)) (g_name sc.nd (i := 1)) (s_cons (s_set (i := 2) sc.nd (p_cl (cl__law_feed F) hr hg (a_cons (p_var 0) (a_cons (p_var 1) a_nil))))
  (s_cons (s_set (i := 3) sc.nd (p_cl (cl__law_any_web F) hr hg (a_cons (p_var 2) (a_cons p_int a_nil))))
  (s_cons (s_set (i := 4) sc.nd p_dic0)
  (s_cons (s_for (vs := [5]) PassesOwn.never (i_seq (p_cl (cl__law_orders F) hr hg (a_cons (p_var 3) a_nil))) (g_name sc.nd (i := 5)) (s_cons (s_expr (p_mtT pa_dict sl_setdefault ty_setdefault (mt_setd rfl (u16 hr)) om_setd (pds_cons (pd_of (p_cl (cl__law_arrows F) hr hg (a_cons (p_var 3) (a_cons (p_var 5) a_nil)))) (pds_cons (pd_of (p_var 5)) pds_nil)) (i := 4)))
  (s_one (s_if (q_ne (u64 hr) (p_callB (call_reprE hg (u66 hr)) on_reprE F.n_repr bt_repr (a_cons (p_cl (cl_first_alike F) hr hg (a_cons (p_var 3) (a_cons (p_fr (p_var 5)) a_nil))) a_nil)) (p_callB (call_reprE hg (u66 hr)) on_reprE F.n_repr bt_repr (a_cons (p_ix (u65 hr) (p_var 4) (p_cl (cl__law_arrows F) hr hg (a_cons (p_var 3) (a_cons (p_var 5) a_nil)))) a_nil))) (s_one (s_ret p_bl)) s_nil))))
  (s_cons (s_set (i := 3) sc.nd (p_cl (cl__law_any_web F) hr hg (a_cons (p_var 2) (a_cons p_int a_nil))))
  (s_cons (s_set (i := 5) sc.nd (p_cl (cl__law_order F) hr hg (a_cons (p_var 2) (a_cons (p_var 3) a_nil))))
  (s_cons (s_set (i := 6) sc.nd (p_cl (cl__law_first F) hr hg (a_cons (p_var 3) (a_cons (p_fr (p_cl (cl__law_arrows F) hr hg (a_cons (p_var 3) (a_cons (p_var 5) a_nil)))) a_nil))))
  (s_cons (s_for (vs := [7]) PassesOwn.never (i_range1 F.n_range (pds_cons (pd_of p_int) pds_nil)) (g_name sc.nd (i := 7)) (s_cons (s_set (i := 8) sc.nd (p_ix (u65 hr) (p_cl (cl__law_like F) hr hg (a_cons (p_var 2) (a_cons (p_var 3) (a_cons (p_var 5) (a_cons p_int a_nil))))) p_int))
  (s_one (s_if (q_w (w_or (q_ne (u64 hr) (p_callB (call_reprE hg (u66 hr)) on_reprE F.n_repr bt_repr (a_cons (p_cl (cl_first_alike F) hr hg (a_cons (p_var 3) (a_cons (p_fr (p_var 8)) a_nil))) a_nil)) (p_callB (call_reprE hg (u66 hr)) on_reprE F.n_repr bt_repr (a_cons (p_var 6) a_nil))) (w_or1 (q_ne (u64 hr) (p_callB (call_reprE hg (u66 hr)) on_reprE F.n_repr bt_repr (a_cons (p_clK (kw_first_alike_0 F) hr hg (kw_cons (p_fr (p_var 8)) (kw_cons (p_var 3) kw_nil))) a_nil)) (p_callB (call_reprE hg (u66 hr)) on_reprE F.n_repr bt_repr (a_cons (p_var 6) a_nil)))))) (s_one (s_ret p_bl)) s_nil))))
  (s_one (s_if (q_w (w_or (q_ne (u64 hr) (p_cl (cl_first_alike F) hr hg (a_cons (p_var 3) (a_cons (p_fr (p_var 6)) a_nil))) (p_var 6)) (w_or1 (q_notB (p_cl (cl_are_alike F) hr hg (a_cons (p_var 3) (a_cons (p_fr (p_var 6)) (a_cons (p_fr (p_var 5)) a_nil)))) p_bl)))) (s_one (s_ret p_bl)) s_nil)))))))))))
  (s_one (s_ret p_bl)))
end PX

namespace PX
open PySem PySem.Spec PyProof.Rows L2 PL PK
variable [TheW]
local macro_rules | `(tactic| infer_instance) => `(tactic| dsimp only)
local macro_rules | `(tactic| infer_instance) => `(tactic| with_reducible refine le_ok (by with_unfolding_all rfl) ?_)
local macro_rules | `(tactic| infer_instance) => `(tactic| with_reducible refine pick_ok (by with_unfolding_all rfl) (by dsimp only [pick, List.filterMap, List.getElem?_cons_succ, List.getElem?_cons_zero] <;> exact rfl) ?_)
local macro_rules | `(tactic| infer_instance) => `(tactic| with_reducible refine free_ok (by with_unfolding_all rfl) ?_)
local macro_rules | `(tactic| infer_instance) => `(tactic| with_reducible refine ty_ok (by with_unfolding_all rfl) ?_)
local macro_rules | `(tactic| infer_instance) => `(tactic| (with_reducible refine g_chq ?_; first | with_reducible refine ch_lt ?_ | with_reducible refine ch_le ?_))
local macro_rules | `(tactic| infer_instance) => `(tactic| (with_reducible refine g_sl1 ?_; first | with_reducible refine s1_T ?_ | with_reducible refine s1_L ?_))
local macro_rules | `(tactic| infer_instance) => `(tactic| (with_reducible refine g_op1 ?_; first | with_reducible refine v_revT ?_ | with_reducible refine v_revL ?_ | with_reducible refine o_isi_t (by with_unfolding_all rfl) ?_ | with_reducible refine o_isi_f (by with_unfolding_all rfl) ?_))
local macro_rules | `(tactic| infer_instance) => `(tactic| (with_reducible refine g_sq1 ?_; first | with_reducible refine sq_S ?_ | with_reducible refine sq_T ?_ | with_reducible refine sq_L ?_))
local macro_rules | `(tactic| infer_instance) => `(tactic| with_reducible refine isI_ok ?_)
local macro_rules | `(tactic| infer_instance) => `(tactic| (with_reducible refine g_mtk ?_; first | with_reducible refine v_appB (by with_unfolding_all rfl) (by simp only [List.length_map, List.length_append, List.length_cons, List.length_nil, List.length_range, List.length_take, sizeLine_eq]; omega) (by (try (show List.set (_ :: _) _ _ = _)); dsimp only [List.set] <;> exact rfl) ?_ | with_reducible refine v_app (by with_unfolding_all rfl) (by simp only [List.length_map, List.length_append, List.length_cons, List.length_nil, List.length_range, List.length_take, sizeLine_eq]; omega) (by (try (show List.set (_ :: _) _ _ = _)); dsimp only [List.set] <;> exact rfl) ?_))
local macro_rules | `(tactic| infer_instance) => `(tactic| (with_reducible refine g_ret1 ?_; first | with_reducible refine ret_nl (by first | (dsimp only [pbs, setOc, List.getElem?_cons_succ, List.getElem?_cons_zero, List.set] <;> exact rfl) | exact rfl) ?_ | with_reducible refine ret_ob (by first | (dsimp only [pbs, setOc, List.getElem?_cons_succ, List.getElem?_cons_zero, List.set] <;> exact rfl) | exact rfl) ?_ | with_reducible refine ret_d (by first | (dsimp only [pbs, setOc, List.getElem?_cons_succ, List.getElem?_cons_zero, List.set] <;> exact rfl) | exact rfl) ?_))
local macro_rules | `(tactic| infer_instance) => `(tactic| with_reducible refine callq_ok (by with_unfolding_all rfl) ?_)
local macro_rules | `(tactic| infer_instance) => `(tactic| (with_reducible refine g_stoAll ?_; first | with_reducible refine PL.sa_cons (by with_unfolding_all rfl) ?_ | with_reducible refine PL.sa_nil ?_))
local macro_rules | `(tactic| infer_instance) => `(tactic| (with_reducible refine g_sto ?_; first | with_reducible refine v_sto_al (by with_unfolding_all rfl) (by (try (show List.set (_ :: _) _ _ = _)); dsimp only [List.set] <;> exact rfl) (by with_unfolding_all first | exact rfl | assumption | exact fr_nb (by assumption)) (by (try (show List.set (_ :: _) _ _ = _)); dsimp only [List.set] <;> exact rfl) ?_ | with_reducible refine v_sto_nl (by with_unfolding_all first | exact rfl | assumption | exact fr_nb (by assumption)) (by (try (show List.set (_ :: _) _ _ = _)); dsimp only [List.set] <;> exact rfl) ?_ | with_reducible refine v_sto_d (by with_unfolding_all first | exact rfl | assumption | exact fr_nb (by assumption)) (by (try (show List.set (_ :: _) _ _ = _)); dsimp only [List.set] <;> exact rfl) ?_ | with_reducible refine v_sto_ob (by with_unfolding_all first | exact rfl | assumption | exact fr_nb (by assumption)) (by (try (show List.set (_ :: _) _ _ = _)); dsimp only [List.set] <;> exact rfl) ?_))
local macro_rules | `(tactic| infer_instance) => `(tactic| (with_reducible refine g_tg1 ?_; first | with_reducible refine t_triple (by with_unfolding_all first | exact rfl | assumption | exact fr_nb (by assumption)) (by (try (show List.set (_ :: _) _ _ = _)); dsimp only [List.set] <;> exact rfl) (by with_unfolding_all first | exact rfl | assumption | exact fr_nb (by assumption)) (by (try (show List.set (_ :: _) _ _ = _)); dsimp only [List.set] <;> exact rfl) (by with_unfolding_all first | exact rfl | assumption | exact fr_nb (by assumption)) (by (try (show List.set (_ :: _) _ _ = _)); dsimp only [List.set] <;> exact rfl) ?_ | with_reducible refine t_pair (by with_unfolding_all first | exact rfl | assumption | exact fr_nb (by assumption)) (by (try (show List.set (_ :: _) _ _ = _)); dsimp only [List.set] <;> exact rfl) (by with_unfolding_all first | exact rfl | assumption | exact fr_nb (by assumption)) (by (try (show List.set (_ :: _) _ _ = _)); dsimp only [List.set] <;> exact rfl) ?_ | with_reducible refine t_name (by with_unfolding_all first | exact rfl | assumption | exact fr_nb (by assumption)) (by (try (show List.set (_ :: _) _ _ = _)); dsimp only [List.set] <;> exact rfl) ?_))
local macro_rules | `(tactic| infer_instance) => `(tactic| (with_reducible refine g_endq ?_; first | with_reducible refine en_rt ?_ | with_reducible refine en_bk ?_ | with_reducible refine en_ct ?_ | with_reducible refine en_nx ?_))
local macro_rules | `(tactic| infer_instance) => `(tactic| (with_reducible refine g_retq ?_; first | with_reducible refine rq_al (by with_unfolding_all rfl) (by first | (dsimp only [outl, outDV, List.getElem?_cons_succ, List.getElem?_cons_zero] <;> exact rfl) | exact rfl) ?_ | with_reducible refine rq_nl (by first | (dsimp only [outl, outDV, List.getElem?_cons_succ, List.getElem?_cons_zero] <;> exact rfl) | exact rfl) ?_ | with_reducible refine rq_ob (by first | (dsimp only [outl, outDV, List.getElem?_cons_succ, List.getElem?_cons_zero] <;> exact rfl) | exact rfl) ?_ | with_reducible refine rq_d (by first | (dsimp only [outl, outDV, List.getElem?_cons_succ, List.getElem?_cons_zero] <;> exact rfl) | exact rfl) ?_ | with_reducible refine rq_nx (by first | (dsimp only [outl, outDV, List.getElem?_cons_succ, List.getElem?_cons_zero] <;> exact rfl) | exact rfl) ?_))
local macro_rules | `(tactic| infer_instance) => `(tactic| (with_reducible refine g_opn ?_; first | with_reducible refine n_tupT ?_ | with_reducible refine n_tupL ?_ | with_reducible refine n_lstT ?_ | with_reducible refine n_lstL ?_ | with_reducible refine n_min2 ?_ | with_reducible refine n_max2 ?_ | with_reducible refine n_intB ?_ | with_reducible refine n_intI ?_ | with_reducible refine n_lenT ?_ | with_reducible refine n_lenL ?_))
local macro_rules | `(tactic| infer_instance) => `(tactic| (with_reducible refine g_argq ?_; first | with_reducible refine aq_brw (by with_unfolding_all rfl) ?_ | with_reducible refine aq_own (by with_unfolding_all rfl) ?_ | with_reducible refine aq_nl ?_ | with_reducible refine aq_ob ?_ | with_reducible refine aq_d ?_ | with_reducible refine aq_nil ?_))
local macro_rules | `(tactic| infer_instance) => `(tactic| (with_reducible refine g_lks ?_; first | with_reducible refine l_cons ?_ | with_reducible refine l_nil ?_))
local macro_rules | `(tactic| infer_instance) => `(tactic| (with_reducible refine g_wpO ?_; first | with_reducible refine v_oS ?_ | with_reducible refine w_oN ?_))
local macro_rules | `(tactic| infer_instance) => `(tactic| (with_reducible refine g_wpA ?_; first | with_reducible refine w_acons ?_ | with_reducible refine w_anil ?_))
local macro_rules | `(tactic| infer_instance) => `(tactic| (with_reducible refine g_wpDs ?_; first | with_reducible refine w_seqI ?_ | with_reducible refine w_range2 ?_ | with_reducible refine w_range1 ?_ | with_reducible refine w_dcons ?_ | with_reducible refine w_dnil ?_))
local macro_rules | `(tactic| infer_instance) => `(tactic| with_reducible refine if_no (by with_unfolding_all rfl) ?_)
local macro_rules | `(tactic| infer_instance) => `(tactic| with_reducible refine if_yes (by with_unfolding_all rfl) ?_)
local macro_rules | `(tactic| infer_instance) => `(tactic| with_reducible refine isB_ok ?_)
local macro_rules | `(tactic| infer_instance) => `(tactic| (with_reducible refine g_wpT ?_; first | with_reducible refine w_yes ?_ | with_reducible refine w_Not ?_ | with_reducible refine w_Or ?_ | with_reducible refine w_And ?_ | with_reducible refine v_B ?_))
local macro_rules | `(tactic| infer_instance) => `(tactic| with_reducible refine w_F ?_)
local macro_rules | `(tactic| infer_instance) => `(tactic| (with_reducible refine g_fz1 ?_; first | with_reducible refine v_fz_ownM (by with_unfolding_all rfl) (by (try (show List.set (_ :: _) _ _ = _)); dsimp only [List.set] <;> exact rfl) ?_ | with_reducible refine v_fz_ownL (by with_unfolding_all rfl) (by (try (show List.set (_ :: _) _ _ = _)); dsimp only [List.set] <;> exact rfl) ?_ | with_reducible refine fz_nlM' ?_ | with_reducible refine fz_nlL' ?_ | with_reducible refine fz_d' ?_))
local macro_rules | `(tactic| infer_instance) => `(tactic| (with_reducible refine g_op2 ?_; first | with_reducible refine o_eqS_same ?_ | with_reducible refine o_notinSS ?_ | with_reducible refine o_inSS ?_ | with_reducible refine o_neI ?_ | with_reducible refine o_eqI ?_ | with_reducible refine o_neS_same ?_ | with_reducible refine o_neS ?_ | with_reducible refine o_eqS ?_ | with_reducible refine o_mod (by with_unfolding_all decide) ?_ | with_reducible refine o_pow (by with_unfolding_all decide) ?_ | with_reducible refine o_ixT (by with_unfolding_all rfl) ?_ | with_reducible refine o_ixL (by with_unfolding_all rfl) ?_ | with_reducible refine o_ge ?_ | with_reducible refine o_gt ?_ | with_reducible refine o_le ?_ | with_reducible refine o_lt ?_ | with_reducible refine o_sub ?_ | with_reducible refine o_addI ?_))
local macro_rules | `(tactic| infer_instance) => `(tactic| (with_reducible refine g_lkq ?_; first | with_reducible refine v_lk_brwM (by with_unfolding_all rfl) ?_ | with_reducible refine v_lk_ownM (by with_unfolding_all rfl) ?_ | with_reducible refine v_lk_nlM ?_ | with_reducible refine lk_brwL (by with_unfolding_all rfl) ?_ | with_reducible refine lk_ownL (by with_unfolding_all rfl) ?_ | with_reducible refine lk_nlL ?_ | with_reducible refine lk_d ?_))
local macro_rules | `(tactic| infer_instance) => `(tactic| (with_reducible refine g_wpS ?_; first | with_reducible refine v_parN ?_ | with_reducible refine v_par3 ?_ | with_reducible refine v_par2 ?_ | with_reducible refine w_put ?_ | with_reducible refine w_asg ?_ | with_reducible refine w_set ?_ | with_reducible refine w_ifS ?_ | with_reducible refine w_retN ?_ | with_reducible refine w_ret ?_ | with_reducible refine w_drop ?_ | with_reducible refine w_ct ?_ | with_reducible refine w_bk ?_ | with_reducible refine w_nx ?_ | with_reducible refine w_seq ?_))
local macro_rules | `(tactic| infer_instance) => `(tactic| (with_reducible refine g_wpE ?_; first | with_reducible refine w_of ?_ | with_reducible refine v_dic0 ?_ | with_reducible refine v_mq ?_ | with_reducible refine v_chain ?_ | with_reducible refine v_fn (by with_unfolding_all rfl) (by with_unfolding_all rfl) (by dsimp only [Nat.reduceSub, List.replicate, List.cons_append, List.nil_append] <;> exact rfl) ?_ | with_reducible refine v_mtL (by with_unfolding_all rfl) ?_ | with_reducible refine v_callK ?_ | with_reducible refine v_call ?_ | with_reducible refine w_NotV ?_ | with_reducible refine w_OrV ?_ | with_reducible refine w_AndV ?_ | with_reducible refine w_sl ?_ | with_reducible refine w_varB (by with_unfolding_all rfl) ?_ | with_reducible refine w_varO (by with_unfolding_all rfl) ?_ | with_reducible refine w_var (by with_unfolding_all rfl) ?_ | with_reducible refine w_varOb (by with_unfolding_all rfl) ?_ | with_reducible refine w_fld ?_ | with_reducible refine w_meth ?_ | with_reducible refine w_make ?_ | with_reducible refine v_tup ?_ | with_reducible refine v_lst ?_ | with_reducible refine w_If ?_ | with_reducible refine w_c ?_ | with_reducible refine w_m2 ?_ | with_reducible refine w_m1 ?_ | with_reducible refine w_callN ?_))
local macro_rules | `(tactic| infer_instance) => `(tactic| with_reducible refine fq_ok (by with_unfolding_all rfl) ?_)
local macro_rules | `(tactic| infer_instance) => `(tactic| with_reducible refine mq_ok (by with_unfolding_all rfl) ?_)
local macro_rules | `(tactic| infer_instance) => `(tactic| with_reducible refine nd_ok (by with_unfolding_all rfl) ?_)
local macro_rules | `(tactic| infer_instance) => `(tactic| (with_reducible refine g_xret1 ?_; first | with_reducible refine xc_d (by first | (dsimp only [pbs, setOc, List.getElem?_cons_succ, List.getElem?_cons_zero, List.set] <;> exact rfl) | exact rfl) ?_ | with_reducible refine xc_nl (by first | (dsimp only [pbs, setOc, List.getElem?_cons_succ, List.getElem?_cons_zero, List.set] <;> exact rfl) | exact rfl) ?_ | with_reducible refine xc_ob (by first | (dsimp only [pbs, setOc, List.getElem?_cons_succ, List.getElem?_cons_zero, List.set] <;> exact rfl) | exact rfl) ?_ | with_reducible refine xc_ex (by first | (dsimp only [pbs, setOc, List.getElem?_cons_succ, List.getElem?_cons_zero, List.set] <;> exact rfl) | exact rfl) ?_))
local macro_rules | `(tactic| infer_instance) => `(tactic| (with_reducible refine g_xretq ?_; first | with_reducible refine xq_ex (by first | (dsimp only [outl, outDV, List.getElem?_cons_succ, List.getElem?_cons_zero] <;> exact rfl) | exact rfl) ?_ | with_reducible refine xq_o ?_))
local macro_rules | `(tactic| infer_instance) => `(tactic| (with_reducible refine g_xsq ?_; first | with_reducible refine xs_nx ?_ | with_reducible refine xs_rt ?_ | with_reducible refine xs_ex ?_))
local macro_rules | `(tactic| infer_instance) => `(tactic| (with_reducible refine g_xdq ?_; first | with_reducible refine xd_ok ?_ | with_reducible refine xd_ex ?_))
local macro_rules | `(tactic| infer_instance) => `(tactic| (with_reducible refine g_xrq ?_; first | with_reducible refine xr_ok ?_ | with_reducible refine xr_ex ?_))
local macro_rules | `(tactic| infer_instance) => `(tactic| (with_reducible refine g_xsetq ?_; first | with_reducible refine xst_ok ?_ | with_reducible refine xst_ex ?_))
local macro_rules | `(tactic| infer_instance) => `(tactic| (with_reducible refine g_xtupq ?_; first | with_reducible refine xt_ok ?_ | with_reducible refine xt_ex ?_))
local macro_rules | `(tactic| infer_instance) => `(tactic| (with_reducible refine g_xopq ?_; first | with_reducible refine xo_ok ?_ | with_reducible refine xo_ex ?_))
local macro_rules | `(tactic| infer_instance) => `(tactic| (with_reducible refine g_tryq ?_; first | with_reducible refine tr_o ?_ | with_reducible refine tr_ex (by with_unfolding_all rfl) (by with_unfolding_all rfl) (by with_unfolding_all rfl) (by (try (show List.set (_ :: _) _ _ = _)); dsimp only [List.set] <;> exact rfl) ?_))
local macro_rules | `(tactic| infer_instance) => `(tactic| (with_reducible refine g_wpSX ?_; first | with_reducible refine wx_seq ?_ | with_reducible refine wx_if ?_ | with_reducible refine wx_raise ?_ | with_reducible refine wx_drop ?_ | with_reducible refine wx_ret ?_ | with_reducible refine wx_set ?_ | with_reducible refine wx_lift ?_))
local macro_rules | `(tactic| infer_instance) => `(tactic| (with_reducible refine g_wpEX ?_; first | with_reducible refine wx_fn (by with_unfolding_all rfl) (by with_unfolding_all rfl) (by dsimp only [Nat.reduceSub, List.replicate, List.cons_append, List.nil_append] <;> exact rfl) ?_ | with_reducible refine wx_callK ?_ | with_reducible refine wx_call ?_ | with_reducible refine wx_tup1 ?_ | with_reducible refine wx_ifE ?_ | with_reducible refine wx_op2 ?_ | with_reducible refine wx_liftE ?_))
local macro_rules | `(tactic| infer_instance) => `(tactic| with_reducible refine xcallq_ok (by with_unfolding_all rfl) ?_)
local macro_rules | `(tactic| infer_instance) => `(tactic| with_reducible refine w_isE (by with_unfolding_all rfl) ?_)
local macro_rules | `(tactic| infer_instance) => `(tactic| with_reducible refine wx_try ?_)
local macro_rules | `(tactic| infer_instance) => `(tactic| (with_reducible refine g_tend ?_; with_reducible refine te_ok (by with_unfolding_all rfl) (by with_unfolding_all rfl) (by (try (show List.set (_ :: _) _ _ = _)); dsimp only [List.set] <;> exact rfl) ?_))
/-! ### law k29 -/
theorem v_mtD {ρ : Ev} {i : Nat} {kvs : List (D × D)} {g : OC → List D → Option (OC × D)} {ms : MDs} {Q : RV → Ev → Prop} (h0 : ρ[i]? = some (.own (.M kvs))) (h : wp ms ρ fun ds ρ1 => mtk i g ds ρ1 fun z ρ2 => Q (.d z) ρ2) : wp (mMtT i g ms) ρ Q := by
  obtain ⟨ds, ρ1, e1, o, o', z, e2, e3, q⟩ := h
  refine ⟨.d z, setOc ρ1 i o', ?_, q⟩
  unfold mMtT
  rw [ocOf_own h0]
  show (ms ρ).bind _ = _
  rw [e1]
  show (ocOf ρ1[i]?).bind _ = _
  rw [e2]
  show (g o ds).map _ = _
  rw [e3]
  rfl
theorem v_setd {ρ ρ2 : Ev} {i : Nat} {kvs kvs' : List (D × D)} {ds : List D} {y : D} {K : D → Ev → Prop} (h : ρ[i]? = some (.own (.M kvs))) (e : gSetd (.M kvs) ds = some (.M kvs', y)) (e2 : ρ.set i (.own (.M kvs')) = ρ2) (q : K y ρ2) : mtk i gSetd ds ρ K :=
  ⟨_, .M kvs', y, ocOf_own h, e, by rw [setOc_own h, e2]; exact q⟩
theorem law_pure (ns : List Int) (hl : ns.length ≤ 63) : ∃ ρ, fm_law [.v (.list (ns.map .int))] = some (.d (.bool true), ρ) := by
  suffices h : wp fm_law [.v (.list (ns.map .int))] fun r _ => r = .d (.bool true) by
    obtain ⟨r, ρ, e, rfl⟩ := h
    exact ⟨ρ, e⟩
  unfold fm_law ms_law
  repeat infer_instance
  refine w_for ?_
  repeat infer_instance
  refine v_r1 (by omega) ?_
  refine v_loopF (fun j ρ => ∃ x1 x2 x3 x4 x5 x6 x7 x8, ρ = [.v (.list (ns.map .int)), x1, x2, x3, x4, x5, x6, x7, x8] ∧ noBrw (some x1) = true ∧ noBrw (some x2) = true ∧ noBrw (some x3) = true ∧ noBrw (some x4) = true ∧ noBrw (some x5) = true ∧ noBrw (some x6) = true ∧ noBrw (some x7) = true ∧ noBrw (some x8) = true) ⟨_, _, _, _, _, _, _, _, rfl, rfl, rfl, rfl, rfl, rfl, rfl, rfl, rfl⟩ ?_ ?_
  · rintro j k ρ hj ⟨x1, x2, x3, x4, x5, x6, x7, x8, rfl, h1, h2, h3, h4, h5, h6, h7, h8⟩
    obtain ⟨rfl, hk⟩ := rg_get hj
    have hk : k < 3 := by omega
    repeat infer_instance
    refine e_feed hl (by omega) (by omega) fun a b c F => ?_
    repeat infer_instance
    refine e_law_any_webL F (by decide) (by decide) (by decide) fun zs rs a b c W wl F => ?_
    have wl : zs.length ≤ 5 := by omega
    have hl8 := W.l2
    have hl1 := W.l1
    repeat infer_instance
    refine w_for ?_
    repeat infer_instance
    refine e_law_orders W wl ?_
    repeat infer_instance
    refine v_loopF (fun j ρ => ∃ (G : List (List (Str × Str))) (y5 : DV), noBrw (some y5) = true ∧ G.length ≤ j ∧ (∀ o ∈ (ordsF zs zs.length).take j, ars o rs ∈ G) ∧ (∀ L ∈ G, ∃ o ∈ (ordsF zs zs.length).take j, ars o rs = L) ∧
      ρ = [.v (.list (ns.map .int)), .v (.int (k : Nat)), .own (fd a b c), .v (webD zs rs), .own (.M (fsM zs G)), y5, x6, x7, x8]) ⟨[], _, h5, Nat.le_refl _, nofun, nofun, rfl⟩ ?_ ?_
    · rintro j ord ρ hj ⟨G, y5, g5, gl, hG, hG2, rfl⟩
      have hjl := (List.getElem?_eq_some_iff.mp hj).1
      have jl : j < 3125 := Nat.lt_of_lt_of_le hjl (Nat.le_trans (ordsF_len zs.length) (pow5 wl))
      have O : OrdOk zs ord := (ordsF_ord W.nd).mp (List.mem_of_getElem? hj)
      obtain ⟨G', hG'⟩ : ∃ G', G' = if ars ord rs ∈ G then G else G ++ [ars ord rs] := ⟨_, rfl⟩
      have inG : ars ord rs ∈ G' := by
        rw [hG']
        by_cases h : ars ord rs ∈ G
        · rw [if_pos h]; exact h
        · rw [if_neg h]; exact List.mem_append_right _ (List.mem_singleton.mpr rfl)
      have sub : ∀ L ∈ G, L ∈ G' := fun L hL => by
        rw [hG']
        by_cases h : ars ord rs ∈ G
        · rw [if_pos h]; exact hL
        · rw [if_neg h]; exact List.mem_append_left _ hL
      repeat infer_instance
      refine v_mtD rfl ?_
      repeat infer_instance
      refine e_law_arrows W O ?_
      repeat infer_instance
      refine v_setd rfl (fsM_set (ns := zs) (by have : 3125 < 2 ^ 20 := by decide
                                                omega) fun hn => ?_) rfl ?_
      · unfold fsD
        rw [first_met W hj fun o ho e => hn (by rw [← e]; exact hG o ho)]
        rfl
      rw [← hG']
      repeat infer_instance
      refine e_first_alike W O ?_
      repeat infer_instance
      refine n_reprE (orD_shows W) ?_
      repeat infer_instance
      refine e_law_arrows W O ?_
      repeat infer_instance
      refine o_ixM (fsM_get inG) ?_
      repeat infer_instance
      unfold fsD
      refine n_reprE (orD_shows W) ?_
      repeat infer_instance
      refine ⟨G', .v (ordD ord), rfl, ?_, fun o ho => ?_, fun L hL => ?_, rfl⟩
      · rw [hG']
        split
        · omega
        · rw [List.length_append]; show _ + 1 ≤ _; omega
      · rw [take_snoc' hj] at ho
        rcases List.mem_append.mp ho with h | h
        · exact sub _ (hG o h)
        · rw [List.mem_singleton.mp h]; exact inG
      · rw [take_snoc' hj]
        rw [hG'] at hL
        by_cases h : ars ord rs ∈ G
        · rw [if_pos h] at hL
          obtain ⟨o, ho, e⟩ := hG2 L hL
          exact ⟨o, List.mem_append_left _ ho, e⟩
        · rw [if_neg h] at hL
          rcases List.mem_append.mp hL with hL | hL
          · obtain ⟨o, ho, e⟩ := hG2 L hL
            exact ⟨o, List.mem_append_left _ ho, e⟩
          · exact ⟨ord, List.mem_append_right _ (List.mem_singleton.mpr rfl), (List.mem_singleton.mp hL).symm⟩
    · rintro ρ ⟨G, y5, g5, gl, hG, hG2, rfl⟩
      clear hG hG2
      repeat infer_instance
      refine e_law_any_web F (by omega) (by decide) (by decide) fun zs rs a b c W F => ?_
      have hl8 := W.l2
      repeat infer_instance
      refine e_law_order F (by omega) hl8 fun ord a b c O F => ?_
      have A := ars_of (rs := rs) ord
      have al : (ars ord rs).length ≤ 100 := by rw [A.len]; have := W.rl; omega
      obtain ⟨f, hf, _⟩ := fst_le (rs := rs) W O
      have Of := fst_ord W hf
      have fa := fst_ars W A hf
      have fsh : SeqAt.shaped (ordD f) = true := by have := orD_shaped (L := ars ord rs) W; rw [hf] at this; exact this
      have fcn : canon (ordD f) = true := orD_canon (o := some f)
      have fshow : showsD (ordD f) = true := by have := orD_shows (L := ars ord rs) W; rw [hf] at this; exact this
      repeat infer_instance
      refine e_law_arrows W O ?_
      repeat infer_instance
      refine e_law_first W (A.nm W) al ?_
      rw [hf, show orD (some f) = ordD f from rfl]
      repeat infer_instance
      refine w_for ?_
      repeat infer_instance
      refine v_r1 (by decide) ?_
      refine v_loopF (fun i ρ => ∃ (a b c : Int) (y7 y8 : DV), FeedOk (1000 + 30 * i) a b c ∧ noBrw (some y7) = true ∧ noBrw (some y8) = true ∧ ρ = [.v (.list (ns.map .int)), .v (.int (k : Nat)), .own (fd a b c), .v (webD zs rs), .own (.M (fsM _ G)), .v (ordD ord), .v (ordD f), y7, y8]) ⟨a, b, c, x7, x8, F.mono (by omega), h7, h8, rfl⟩ ?_ ?_
      · rintro i t ρ hi ⟨a, b, c, y7, y8, F, g7, g8, rfl⟩
        obtain ⟨rfl, ht⟩ := rg_get hi
        have ht : t < 4 := ht
        repeat infer_instance
        refine e_law_like (most := 12) F (by omega) (by decide) W O fun is cur a b c x2 _ Oc ac _ _ F => ?_
        repeat infer_instance
        refine e_first_alike W Oc ?_
        rw [ac, hf, show orD (some f) = ordD f from rfl]
        repeat infer_instance
        refine n_reprE fshow ?_
        repeat infer_instance
        refine n_reprE fshow ?_
        repeat infer_instance
        refine e_first_alike W Oc ?_
        rw [ac, hf, show orD (some f) = ordD f from rfl]
        repeat infer_instance
        refine n_reprE fshow ?_
        repeat infer_instance
        refine n_reprE fshow ?_
        repeat infer_instance
        exact ⟨a, b, c, _, _, F.mono (by omega), rfl, rfl, rfl⟩
      · rintro ρ ⟨a, b, c, y7, y8, F, g7, g8, rfl⟩
        repeat infer_instance
        refine e_first_alike W Of ?_
        rw [fa, hf, show orD (some f) = ordD f from rfl]
        repeat infer_instance
        refine o_neSame fsh fcn ?_
        repeat infer_instance
        refine e_are_alike W Of O ?_
        rw [fa, decide_eq_true rfl]
        repeat infer_instance
        refine o_notB ?_
        repeat infer_instance
        exact ⟨_, _, _, _, _, _, _, _, rfl, rfl, rfl, rfl, rfl, rfl, rfl, g7, g8⟩
  · rintro ρ ⟨x1, x2, x3, x4, x5, x6, x7, x8, rfl, h1, h2, h3, h4, h5, h6, h7, h8⟩
    repeat infer_instance
end PX
set_option maxHeartbeats 0
namespace PX
open PySem PySem.Spec PyProof.Rows L2 PL PK
variable [TheW]
theorem says {K : PySem.W.Frag} {h : Heap} {mg : Str → Option Value} (X : K.In h) (G : h.Ns mainGlobals mg) (c : PL.SaysP fas fns css K) : Fx K mg where
  d__law_draw := by
    obtain ⟨fd, F⟩ := c.d.def_ 0 (d := dd__law_draw) rfl
    exact ⟨_, fd, F, He.glo_ok X G (c.d.fact 0 (f := .glo "_law_draw") rfl)⟩
  d__law_one := by
    obtain ⟨fd, F⟩ := c.d.def_ 1 (d := dd__law_one) rfl
    exact ⟨_, fd, F, He.glo_ok X G (c.d.fact 1 (f := .glo "_law_one") rfl)⟩
  d__law_mixed := by
    obtain ⟨fd, F⟩ := c.d.def_ 2 (d := dd__law_mixed) rfl
    exact ⟨_, fd, F, He.glo_ok X G (c.d.fact 2 (f := .glo "_law_mixed") rfl)⟩
  d__law_names := by
    obtain ⟨fd, F⟩ := c.d.def_ 3 (d := dd__law_names) rfl
    exact ⟨_, fd, F, He.glo_ok X G (c.d.fact 3 (f := .glo "_law_names") rfl)⟩
  d__law_web := by
    obtain ⟨fd, F⟩ := c.d.def_ 4 (d := dd__law_web) rfl
    exact ⟨_, fd, F, He.glo_ok X G (c.d.fact 4 (f := .glo "_law_web") rfl)⟩
  d__law_wide_web := by
    obtain ⟨fd, F⟩ := c.d.def_ 5 (d := dd__law_wide_web) rfl
    exact ⟨_, fd, F, He.glo_ok X G (c.d.fact 5 (f := .glo "_law_wide_web") rfl)⟩
  d__law_any_web := by
    obtain ⟨fd, F⟩ := c.d.def_ 6 (d := dd__law_any_web) rfl
    exact ⟨_, fd, F, He.glo_ok X G (c.d.fact 6 (f := .glo "_law_any_web") rfl)⟩
  d__law_arrows := by
    obtain ⟨fd, F⟩ := c.d.def_ 7 (d := dd__law_arrows) rfl
    exact ⟨_, fd, F, He.glo_ok X G (c.d.fact 7 (f := .glo "_law_arrows") rfl)⟩
  d__law_feed := by
    obtain ⟨fd, F⟩ := c.d.def_ 8 (d := dd__law_feed) rfl
    exact ⟨_, fd, F, He.glo_ok X G (c.d.fact 8 (f := .glo "_law_feed") rfl)⟩
  d__law_first := by
    obtain ⟨fd, F⟩ := c.d.def_ 9 (d := dd__law_first) rfl
    exact ⟨_, fd, F, He.glo_ok X G (c.d.fact 9 (f := .glo "_law_first") rfl)⟩
  d__law_swapped := by
    obtain ⟨fd, F⟩ := c.d.def_ 10 (d := dd__law_swapped) rfl
    exact ⟨_, fd, F, He.glo_ok X G (c.d.fact 10 (f := .glo "_law_swapped") rfl)⟩
  d__law_apart := by
    obtain ⟨fd, F⟩ := c.d.def_ 11 (d := dd__law_apart) rfl
    exact ⟨_, fd, F, He.glo_ok X G (c.d.fact 11 (f := .glo "_law_apart") rfl)⟩
  d__law_swaps := by
    obtain ⟨fd, F⟩ := c.d.def_ 12 (d := dd__law_swaps) rfl
    exact ⟨_, fd, F, He.glo_ok X G (c.d.fact 12 (f := .glo "_law_swaps") rfl)⟩
  d__law_like := by
    obtain ⟨fd, F⟩ := c.d.def_ 13 (d := dd__law_like) rfl
    exact ⟨_, fd, F, He.glo_ok X G (c.d.fact 13 (f := .glo "_law_like") rfl)⟩
  d__law_order := by
    obtain ⟨fd, F⟩ := c.d.def_ 14 (d := dd__law_order) rfl
    exact ⟨_, fd, F, He.glo_ok X G (c.d.fact 14 (f := .glo "_law_order") rfl)⟩
  d__law_orders := by
    obtain ⟨fd, F⟩ := c.d.def_ 15 (d := dd__law_orders) rfl
    exact ⟨_, fd, F, He.glo_ok X G (c.d.fact 15 (f := .glo "_law_orders") rfl)⟩
  d_arrows_of := by
    obtain ⟨fd, F⟩ := c.d.def_ 16 (d := dd_arrows_of) rfl
    exact ⟨_, fd, F, He.glo_ok X G (c.d.fact 16 (f := .glo "arrows_of") rfl)⟩
  d_are_unlike := by
    obtain ⟨fd, F⟩ := c.d.def_ 17 (d := dd_are_unlike) rfl
    exact ⟨_, fd, F, He.glo_ok X G (c.d.fact 17 (f := .glo "are_unlike") rfl)⟩
  d_are_places := by
    obtain ⟨fd, F⟩ := c.d.def_ 18 (d := dd_are_places) rfl
    exact ⟨_, fd, F, He.glo_ok X G (c.d.fact 18 (f := .glo "are_places") rfl)⟩
  d_is_row_of := by
    obtain ⟨fd, F⟩ := c.d.def_ 19 (d := dd_is_row_of) rfl
    exact ⟨_, fd, F, He.glo_ok X G (c.d.fact 19 (f := .glo "is_row_of") rfl)⟩
  d_is_order := by
    obtain ⟨fd, F⟩ := c.d.def_ 20 (d := dd_is_order) rfl
    exact ⟨_, fd, F, He.glo_ok X G (c.d.fact 20 (f := .glo "is_order") rfl)⟩
  d_need_order := by
    obtain ⟨fd, F⟩ := c.d.def_ 21 (d := dd_need_order) rfl
    exact ⟨_, fd, F, He.glo_ok X G (c.d.fact 21 (f := .glo "need_order") rfl)⟩
  d_is_name := by
    obtain ⟨fd, F⟩ := c.d.def_ 22 (d := dd_is_name) rfl
    exact ⟨_, fd, F, He.glo_ok X G (c.d.fact 22 (f := .glo "is_name") rfl)⟩
  d_is_road := by
    obtain ⟨fd, F⟩ := c.d.def_ 23 (d := dd_is_road) rfl
    exact ⟨_, fd, F, He.glo_ok X G (c.d.fact 23 (f := .glo "is_road") rfl)⟩
  d_is_web_form := by
    obtain ⟨fd, F⟩ := c.d.def_ 24 (d := dd_is_web_form) rfl
    exact ⟨_, fd, F, He.glo_ok X G (c.d.fact 24 (f := .glo "is_web_form") rfl)⟩
  d_need_web := by
    obtain ⟨fd, F⟩ := c.d.def_ 25 (d := dd_need_web) rfl
    exact ⟨_, fd, F, He.glo_ok X G (c.d.fact 25 (f := .glo "need_web") rfl)⟩
  d_need_two_orders := by
    obtain ⟨fd, F⟩ := c.d.def_ 26 (d := dd_need_two_orders) rfl
    exact ⟨_, fd, F, He.glo_ok X G (c.d.fact 26 (f := .glo "need_two_orders") rfl)⟩
  d_are_alike := by
    obtain ⟨fd, F⟩ := c.d.def_ 27 (d := dd_are_alike) rfl
    exact ⟨_, fd, F, He.glo_ok X G (c.d.fact 27 (f := .glo "are_alike") rfl)⟩
  d_ahead_of := by
    obtain ⟨fd, F⟩ := c.d.def_ 28 (d := dd_ahead_of) rfl
    exact ⟨_, fd, F, He.glo_ok X G (c.d.fact 28 (f := .glo "ahead_of") rfl)⟩
  d_first_order := by
    obtain ⟨fd, F⟩ := c.d.def_ 29 (d := dd_first_order) rfl
    exact ⟨_, fd, F, He.glo_ok X G (c.d.fact 29 (f := .glo "first_order") rfl)⟩
  d_first_alike := by
    obtain ⟨fd, F⟩ := c.d.def_ 30 (d := dd_first_alike) rfl
    exact ⟨_, fd, F, He.glo_ok X G (c.d.fact 30 (f := .glo "first_alike") rfl)⟩
  d_law := by
    obtain ⟨fd, F⟩ := c.d.def_ 31 (d := dd_law) rfl
    exact ⟨_, fd, F, He.glo_ok X G (c.d.fact 31 (f := .glo "law") rfl)⟩
  n_all := He.free_ok X G (c.d.fact 32 (f := .free "all") rfl)
  n_enumerate := He.free_ok X G (c.d.fact 33 (f := .free "enumerate") rfl)
  n_int := He.free_ok X G (c.d.fact 34 (f := .free "int") rfl)
  n_isinstance := He.free_ok X G (c.d.fact 35 (f := .free "isinstance") rfl)
  n_len := He.free_ok X G (c.d.fact 36 (f := .free "len") rfl)
  n_list := He.free_ok X G (c.d.fact 37 (f := .free "list") rfl)
  n_max := He.free_ok X G (c.d.fact 38 (f := .free "max") rfl)
  n_min := He.free_ok X G (c.d.fact 39 (f := .free "min") rfl)
  n_range := He.free_ok X G (c.d.fact 40 (f := .free "range") rfl)
  n_repr := He.free_ok X G (c.d.fact 41 (f := .free "repr") rfl)
  n_set := He.free_ok X G (c.d.fact 42 (f := .free "set") rfl)
  n_sorted := He.free_ok X G (c.d.fact 43 (f := .free "sorted") rfl)
  n_str := He.free_ok X G (c.d.fact 44 (f := .free "str") rfl)
  n_sum := He.free_ok X G (c.d.fact 45 (f := .free "sum") rfl)
  n_tuple := He.free_ok X G (c.d.fact 46 (f := .free "tuple") rfl)
  c_DIGITS := He.str_ok X G (c.d.fact 47 (f := .str "DIGITS" "0123456789") rfl)
  c_LETTERS := He.str_ok X G (c.d.fact 48 (f := .str "LETTERS" "abcdefghijklmnopqrstuvwxyz") rfl)
  c_MOST_PLACES := He.int_ok X G (c.d.fact 49 (f := .int "MOST_PLACES" 8) rfl)
  c_MOST_ROADS := He.int_ok X G (c.d.fact 50 (f := .int "MOST_ROADS" 14) rfl)
  c_MOST_SIGNS := He.int_ok X G (c.d.fact 51 (f := .int "MOST_SIGNS" 8) rfl)
end PX
open PySem PySem.W PySem.Calls PyProof.Rows
theorem PySem.Challenge.cw_eachinturn_k29_first_alike_holds : PySem.Challenge.rw_eachinturn_k29_first_alike.Holds := by
  w_on; o_law
  refine HandSHeadRun.head_any (r := PX.Rw) (q := view PX.Rw.prog [45]) (H := PX.hk) (ob := PX.obs) (M := 4000) (loose := PX.loose) (d := HandSHeadRun.topDef PX.Rw.prog 45) (kwd := []) PX.obs_eq
    (by kernel_rfl) (fun s => by kernel_rfl) PX.run (by kernel_rfl) (by kernel_rfl) (by kernel_rfl) (by rfl) (by first | assumption | decide +kernel) (by decide +kernel) ⟨rfl, rfl, rfl, rfl, rfl, by decide +kernel⟩ ?hw ?hc
  case hw => w_witness2
  case hc =>
    refine PL.walk_g (l := PySem.Challenge.rw_eachinturn_k29_first_alike) (n := 63) (k := 8) (x := "_law_script") rfl (by decide) (by kernel_rfl) ⟨rfl, by decide, by decide⟩ ?F
    intro w mg fa h Y G hmg0
    letI : PL.TheW := ⟨w⟩
    obtain ⟨K, KX, c⟩ := Y
    have hmg : mg ("law" : PySem.Str) = some (.ref fa) := by
      have e : (HandSHeadRun.topDef PX.Rw.prog 45).name = ("law" : PySem.Str) := by kernel_rfl
      rw [← e]
      exact hmg0
    have F := PX.says KX G c
    obtain ⟨f, fd, D, g, _⟩ := PX.fx_law (P := PySem.Challenge.rw_eachinturn_k29_first_alike.prog) (base := h) F
    cases hmg.symm.trans g
    have b := L2.FunD.bindsA (ps := ["_law_script"]) D fun _ _ _ _ _ _ us hl => match us, hl with | [_], _ => rfl
    refine ⟨K, fd, PX.fm_law, KX, fun s v => b s [v] rfl, fun ns hl => PX.law_pure ns hl, fun base _ _ => ?_⟩
    obtain ⟨f2, fd2, D2, g2, G2⟩ := PX.fx_law (P := PySem.Challenge.rw_eachinturn_k29_first_alike.prog) (base := base) F
    cases hmg.symm.trans g2
    cases PL.def_one D D2
    exact G2
