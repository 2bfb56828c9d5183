import PyProof.Rows.All
import Wide.All
import OpenK.AllK
import Wide.FinOn
import KE.KStateDown
import HandS.Head0
import HandS.Head1
import HandS.Head2
import HandS.HeadHook1
import HandS.HeadHook2
import HandS.Base
import HandS.Call
import HandS.List
import HandS.Comp
import HandS.Dict
import HandS.Iter
import HandS.Words
import KE.KDictKeyed
import KE.GoesEnum
import KE.GoesMore
import HandS.DictComp
import HandS.SetKeys
import HandS.Defaults
import HandS.TupAny
import HandS.Style
import HandS.Wide
import HandS.Star
import HandS.More
import HandS.WordsDict
import HandS.Text
import HandS.Deep
import KE.KRevSl
import HandS.TupSets
import KE.SortData
import HandS.IsInst
import KE.KDictPairs
import HandS.Zip
import HandS.Zip0
import KE.KDictZip
import KE.KDictList
import HandS.ListItems
import PyProof.SumAnyB
import HandS.Conv
import KE.KTupSum
import PyProof.NeData
import HandS.Ends
import KE.KNest
import PySem.Challenge.RW_roundties_k81_searched_values
set_option Elab.async false
set_option linter.all false
set_option maxRecDepth 100000
/-! DL1: nested tuples as data; the judgements of the hand layer lifted to data. -/
namespace DL
open PySem PySem.Spec PyProof.Rows L2

/-- a value as data: tuples by what they hold; what can change by where it stands -/
inductive D where
  | non | bl (b : Bool) | int (i : Int) | str (x : Str) | tup (ds : List D) | ref (a : Addr)

/-- no tuple is lost, no lock -/
structure Tk (K : PySem.W.Frag) (H H' : Hp) : Prop where
  sq : ∀ b xs, SqT K H b xs → SqT K H' b xs
  fz : ∀ b o u, H b = some (.frz o u) → H' b = some (.frz o u)
theorem Tk.refl {K : PySem.W.Frag} {H : Hp} : Tk K H H := ⟨fun _ _ h => h, fun _ _ _ h => h⟩
theorem Tk.trans {K : PySem.W.Frag} {H H1 H2 : Hp} (a : Tk K H H1) (b : Tk K H1 H2) : Tk K H H2 := ⟨fun c xs h => b.sq c xs (a.sq c xs h), fun c o u h => b.fz c o u (a.fz c o u h)⟩
theorem Tk.upd {K : PySem.W.Frag} {H : Hp} {p : Addr} {o : HO} (h : H p = none ∨ Mut (H p)) : Tk K H (upd H p o) := by
  refine ⟨fun b xs q => ?_, fun b o' u q => ?_⟩
  · rcases q with q | q
    · have nb : b ≠ p := by
        rintro rfl
        rcases q with q | ⟨_, q⟩ <;> rcases h with h | h <;> rw [q] at h <;> first | cases h | exact h
      rcases q with q | ⟨ob, q⟩
      · exact .inl (.inl (by rw [upd_ne nb]; exact q))
      · exact .inl (.inr ⟨ob, by rw [upd_ne nb]; exact q⟩)
    · exact .inr q
  · have nb : b ≠ p := by
      rintro rfl
      rcases h with h | h <;> rw [q] at h <;> first | cases h | exact h
    rw [upd_ne nb]
    exact q
theorem Tk.new {K : PySem.W.Frag} {H : Hp} {p : Addr} {o : HO} (h : H p = none) : Tk K H (L2.upd H p o) := Tk.upd (.inl h)
theorem Tk.set {K : PySem.W.Frag} {H : Hp} {p : Addr} {o o' : HO} (h : H p = some o) (m : Mut (some o)) : Tk K H (L2.upd H p o') := Tk.upd (.inr (h ▸ m))

mutual
def RelD (K : PySem.W.Frag) (H : Hp) : D → V → Prop
  | .non, v => v = .non
  | .bl b, v => v = .bl b
  | .int i, v => v = .int i
  | .str x, v => v = .str x
  | .tup ds, v => ∃ a xs, v = .ref a ∧ SqT K H a xs ∧ RelDs K H ds xs
  | .ref a, v => v = .ref a
def RelDs (K : PySem.W.Frag) (H : Hp) : List D → List V → Prop
  | [], xs => xs = []
  | d :: ds, xs => ∃ x r, xs = x :: r ∧ RelD K H d x ∧ RelDs K H ds r
end
abbrev Ts (K : PySem.W.Frag) (H H' : Hp) : Prop := ∀ b xs, SqT K H b xs → SqT K H' b xs
mutual
theorem RelD.monoS {K : PySem.W.Frag} {H H' : Hp} (t : Ts K H H') : ∀ {d : D} {v : V}, RelD K H d v → RelD K H' d v
  | .non, _, h => h
  | .bl _, _, h => h
  | .int _, _, h => h
  | .str _, _, h => h
  | .ref _, _, h => h
  | .tup _, _, ⟨a, xs, e, q, r⟩ => ⟨a, xs, e, t _ _ q, RelDs.monoS t r⟩
theorem RelDs.monoS {K : PySem.W.Frag} {H H' : Hp} (t : Ts K H H') : ∀ {ds : List D} {xs : List V}, RelDs K H ds xs → RelDs K H' ds xs
  | [], _, h => h
  | _ :: _, _, ⟨x, r, e, q, s⟩ => ⟨x, r, e, RelD.monoS t q, RelDs.monoS t s⟩
end
theorem RelD.mono {K : PySem.W.Frag} {H H' : Hp} (t : Tk K H H') {d : D} {v : V} (h : RelD K H d v) : RelD K H' d v := h.monoS t.sq
theorem RelDs.mono {K : PySem.W.Frag} {H H' : Hp} (t : Tk K H H') {ds : List D} {xs : List V} (h : RelDs K H ds xs) : RelDs K H' ds xs := h.monoS t.sq
section
variable {K : PySem.W.Frag} {H H' : Hp}
theorem RelDs.nil : RelDs K H [] [] := rfl
theorem RelDs.cons {d : D} {ds : List D} {x : V} {xs : List V} (h : RelD K H d x) (t : RelDs K H ds xs) : RelDs K H (d :: ds) (x :: xs) := ⟨x, xs, rfl, h, t⟩
theorem RelDs.length : ∀ {ds : List D} {xs : List V}, RelDs K H ds xs → xs.length = ds.length
  | [], _, rfl => rfl
  | _ :: _, _, ⟨_, _, rfl, _, t⟩ => by rw [List.length_cons, List.length_cons, RelDs.length t]
theorem RelDs.get : ∀ {ds : List D} {xs : List V} {i : Nat} {d : D}, RelDs K H ds xs → ds[i]? = some d → ∃ x, xs[i]? = some x ∧ RelD K H d x
  | [], _, _, _, _, e => by simp at e
  | _ :: _, _, 0, _, ⟨x, r, rfl, q, _⟩, e => by
    simp at e
    subst e
    exact ⟨x, rfl, q⟩
  | _ :: _, _, i + 1, d, ⟨x, r, rfl, _, t⟩, e => by
    obtain ⟨y, h1, h2⟩ := RelDs.get (i := i) (d := d) t (by simpa using e)
    exact ⟨y, by simpa using h1, h2⟩
theorem RelDs.gev : ∀ {ds : List D} {xs : List V} {i : Nat} {x : V}, RelDs K H ds xs → xs[i]? = some x → ∃ d, ds[i]? = some d ∧ RelD K H d x
  | [], _, _, _, rfl, e => by simp at e
  | d :: _, _, 0, _, ⟨x, r, rfl, q, _⟩, e => by
    simp at e
    subst e
    exact ⟨d, rfl, q⟩
  | _ :: _, _, i + 1, d, ⟨x, r, rfl, _, t⟩, e => by
    obtain ⟨y, h1, h2⟩ := RelDs.gev (i := i) (x := d) t (by simpa using e)
    exact ⟨y, by simpa using h1, h2⟩
theorem RelDs.append : ∀ {ds es : List D} {xs ys : List V}, RelDs K H ds xs → RelDs K H es ys → RelDs K H (ds ++ es) (xs ++ ys)
  | [], _, _, _, rfl, s => s
  | _ :: _, _, _, _, ⟨x, r, rfl, q, t⟩, s => ⟨x, r ++ _, rfl, q, RelDs.append t s⟩
theorem RelDs.take : ∀ {ds : List D} {xs : List V} (n : Nat), RelDs K H ds xs → RelDs K H (ds.take n) (xs.take n)
  | _, _, 0, _ => rfl
  | [], _, _ + 1, rfl => rfl
  | _ :: _, _, n + 1, ⟨x, r, rfl, q, t⟩ => ⟨x, r.take n, rfl, q, RelDs.take n t⟩
theorem RelDs.drop : ∀ {ds : List D} {xs : List V} (n : Nat), RelDs K H ds xs → RelDs K H (ds.drop n) (xs.drop n)
  | _, _, 0, r => r
  | [], _, _ + 1, rfl => rfl
  | _ :: _, _, n + 1, ⟨x, r, rfl, q, t⟩ => RelDs.drop n t
theorem RelDs.reverse : ∀ {ds : List D} {xs : List V}, RelDs K H ds xs → RelDs K H ds.reverse xs.reverse
  | [], _, rfl => rfl
  | _ :: _, _, ⟨x, r, rfl, q, t⟩ => by
    rw [List.reverse_cons, List.reverse_cons]
    exact RelDs.append (RelDs.reverse t) ⟨x, [], rfl, q, rfl⟩
theorem RelDs.set {d : D} {x : V} (h : RelD K H d x) : ∀ {ds : List D} {xs : List V} (i : Nat), RelDs K H ds xs → RelDs K H (ds.set i d) (xs.set i x)
  | [], _, _, rfl => rfl
  | _ :: _, _, 0, ⟨y, r, rfl, q, t⟩ => ⟨x, r, rfl, h, t⟩
  | _ :: _, _, i + 1, ⟨y, r, rfl, q, t⟩ => ⟨y, r.set i x, rfl, q, RelDs.set h i t⟩
end

/-- what stands at an address, as data: a list; a list that is read alone; a dict, a set (their kinds come behind) -/
inductive MO where
  | lst (ds : List D)
  | rol (ds : List D)
  | dic (kvs : List (D × D))
  /-- a dict that is walked just now: read alone -/
  | rdc (kvs : List (D × D))
  /-- a tuple whose object is known: it has no dict -/
  | ftp (ds : List D)
  | raw (o : HO)
abbrev Gp := Addr → Option MO
def gup (G : Gp) (a : Addr) (m : MO) : Gp := fun b => if b = a then some m else G b
theorem gup_same {G : Gp} {a : Addr} {m : MO} : gup G a m a = some m := by unfold gup; rw [if_pos rfl]
theorem gup_ne {G : Gp} {a b : Addr} {m : MO} (h : b ≠ a) : gup G a m b = G b := by unfold gup; rw [if_neg h]
theorem gup_gup {G : Gp} {a : Addr} {m n : MO} : gup (gup G a m) a n = gup G a n := by
  funext b
  unfold gup
  split <;> rfl
/-- the first is part of the second -/
def Sub (G G' : Gp) : Prop := ∀ a m, G a = some m → G' a = some m
theorem Sub.refl {G : Gp} : Sub G G := fun _ _ h => h
theorem Sub.trans {G G1 G2 : Gp} (a : Sub G G1) (b : Sub G1 G2) : Sub G G2 := fun c m h => b c m (a c m h)
theorem Sub.new {G : Gp} {p : Addr} {m : MO} (h : G p = none) : Sub G (gup G p m) := fun a n e => by
  rw [gup_ne (by rintro rfl; rw [h] at e; cases e)]
  exact e
theorem Sub.gup {G G' : Gp} {p : Addr} {m : MO} (h : Sub G G') : Sub (gup G p m) (DL.gup G' p m) := fun a n e => by
  by_cases q : a = p
  · subst q
    rw [gup_same] at e ⊢
    exact e
  · rw [gup_ne q] at e ⊢
    exact h a n e


/-- where the whole stands: the written part, the program, the world -/
structure Wd where
  K : PySem.W.Frag
  P : Program
  w : World
abbrev wd (X : Cx) : Wd := ⟨X.K, X.prog, X.w⟩

/-! ### keys -/
mutual
def keyOf : D → Option NestedKey
  | .non => some .none
  | .bl b => some (.num (if b = true then 1 else 0))
  | .int i => some (.num i)
  | .str x => some (.text x)
  | .tup ds => (keysOf ds).map .tup
  | .ref _ => none
def keysOf : List D → Option (List NestedKey)
  | [] => some []
  | d :: ds => match keyOf d, keysOf ds with
    | some k, some ks => some (k :: ks)
    | _, _ => none
end
def keyEq (a b : D) : Bool := decide (keyOf a = keyOf b)
def dget (kvs : List (D × D)) (k : D) : Option D := (kvs.find? fun p => keyEq p.1 k).map (·.2)
def dput (kvs : List (D × D)) (k v : D) : List (D × D) := if kvs.any (fun p => keyEq p.1 k) then kvs.map (fun p => if keyEq p.1 k then (p.1, v) else p) else kvs ++ [(k, v)]
/-- an int, a text as a key -/
def kD : Key → D
  | .inl i => .int i
  | .inr x => .str x

def OwnD (W : Wd) (a : Addr) (xs : List (NestedKey × Addr × Value)) (h : Heap) : Prop :=
  ∃ (o : Obj) (es : Array DictEntry) (ep : Nat), h.get? a = some o ∧ o.ExactDict ∧ o.data = .dict es ep ∧ es.toList = xs.map (entryOfKey (nestedKind W.P W.w))
/-- how the object stands: as it is, or locked -/
def AtM (H : Hp) (a : Addr) (l : Bool) (o : HO) : Prop := match l with
  | false => H a = some o
  | true => ∃ ob, H a = some (.frz ob o)
theorem AtM.rd {H : Hp} {a : Addr} {l : Bool} {o : HO} (h : AtM H a l o) : Rd H a o := by
  cases l with
  | false => exact .inl h
  | true => exact .inr h
theorem AtM.eq {H H' : Hp} {a : Addr} {l : Bool} {o : HO} (h : AtM H a l o) (e : H' a = H a) : AtM H' a l o := by
  cases l with
  | false => exact e.trans h
  | true =>
    obtain ⟨ob, h⟩ := h
    exact ⟨ob, e.trans h⟩
theorem AtM.there {H : Hp} {a : Addr} {l : Bool} {o : HO} (h : AtM H a l o) : H a ≠ none := by
  cases l with
  | false =>
    intro z
    have h : H a = some o := h
    rw [z] at h
    cases h
  | true =>
    obtain ⟨ob, h⟩ := h
    intro z
    rw [z] at h
    cases h
/-- a dict whose keys are tuples -/
structure DicT (W : Wd) (H : Hp) (l : Bool) (a : Addr) (kvs : List (D × D)) (xs : List (NestedKey × Addr × Value)) : Prop where
  at_ : AtM H a l (.ext (OwnD W a xs))
  rel : Paired (fun (p : D × D) (q : NestedKey × Addr × Value) => (∃ ds, p.1 = .tup ds) ∧ keyOf p.1 = some q.1 ∧ q.1.depth ≤ 8 ∧ RelD W.K H p.1 (.ref q.2.1) ∧ ∃ v, RelV v q.2.2 ∧ RelD W.K H p.2 v) kvs xs
  nod : (xs.map (·.1)).Nodup
  sys : (a == sysModules) = false
  len : kvs.length ≤ sizeLine
  ne : kvs ≠ []
/-- a dict whose keys are ints and texts -/
def DicK (W : Wd) (H : Hp) (l : Bool) (a : Addr) (kvs : List (D × D)) : Prop :=
  ∃ xs : List (Key × V), AtM H a l (.dK xs) ∧ Paired (fun (p : D × D) (q : Key × V) => p.1 = kD q.1 ∧ RelD W.K H p.2 q.2) kvs xs
abbrev Dic (W : Wd) (H : Hp) (l : Bool) (a : Addr) (kvs : List (D × D)) : Prop := DicK W H l a kvs ∨ ∃ xs, DicT W H l a kvs xs
theorem Dic.monoS {W : Wd} {H H' : Hp} {l l' : Bool} {a : Addr} {kvs : List (D × D)} (t : Ts W.K H H') (e : ∀ o, AtM H a l o → AtM H' a l' o) : Dic W H l a kvs → Dic W H' l' a kvs
  | .inl ⟨xs, h, r⟩ => .inl ⟨xs, e _ h, Paired.mapP r fun _ _ z => ⟨z.1, z.2.monoS t⟩⟩
  | .inr ⟨xs, h⟩ => .inr ⟨xs, ⟨e _ h.at_, Paired.mapP h.rel fun _ _ z => ⟨z.1, z.2.1, z.2.2.1, z.2.2.2.1.monoS t, let ⟨v, r1, r2⟩ := z.2.2.2.2; ⟨v, r1, r2.monoS t⟩⟩, h.nod, h.sys, h.len, h.ne⟩⟩
theorem Dic.mono {W : Wd} {H H' : Hp} {l l' : Bool} {a : Addr} {kvs : List (D × D)} (t : Tk W.K H H') (e : ∀ o, AtM H a l o → AtM H' a l' o) (h : Dic W H l a kvs) : Dic W H' l' a kvs := h.monoS t.sq e
theorem Dic.there {W : Wd} {H : Hp} {l : Bool} {a : Addr} {kvs : List (D × D)} : Dic W H l a kvs → H a ≠ none
  | .inl ⟨_, h, _⟩ => h.there
  | .inr ⟨_, h⟩ => h.at_.there

def AbsMO (W : Wd) (H : Hp) (a : Addr) : MO → Prop
  | .lst ds => ∃ xs, H a = some (.lst xs) ∧ RelDs W.K H ds xs
  | .rol ds => ∃ xs, Rd H a (.lst xs) ∧ RelDs W.K H ds xs
  | .dic kvs => Dic W H false a kvs
  | .rdc kvs => Dic W H true a kvs
  | .ftp ds => ∃ ob vs, H a = some (.frz ob (.tup vs)) ∧ ob.dict = none ∧ RelDs W.K H ds vs
  | .raw o => H a = some o
theorem AbsMO.monoS {W : Wd} {H H' : Hp} {a : Addr} (t : Ts W.K H H') (e : H' a = H a) : ∀ {m : MO}, AbsMO W H a m → AbsMO W H' a m
  | .lst _, ⟨xs, h, r⟩ => ⟨xs, e.trans h, r.monoS t⟩
  | .rol _, ⟨xs, h, r⟩ => ⟨xs, by
      rcases h with h | ⟨o, h⟩
      · exact .inl (e.trans h)
      · exact .inr ⟨o, e.trans h⟩, r.monoS t⟩
  | .dic _, h => Dic.monoS t (fun _ q => AtM.eq (l := false) q e) h
  | .rdc _, h => Dic.monoS t (fun _ q => AtM.eq (l := true) q e) h
  | .ftp _, ⟨ob, vs, h, hd, r⟩ => ⟨ob, vs, e.trans h, hd, r.monoS t⟩
  | .raw _, h => e.trans h
theorem AbsMO.mono {W : Wd} {H H' : Hp} {a : Addr} (t : Tk W.K H H') (e : H' a = H a) {m : MO} (h : AbsMO W H a m) : AbsMO W H' a m := h.monoS t.sq e

/-- the data heap is held -/
def AbsH (W : Wd) (H : Hp) (G : Gp) : Prop := ∀ a m, G a = some m → AbsMO W H a m
theorem AbsMO.there {W : Wd} {H : Hp} {a : Addr} (hn : H a = none) : ∀ {m : MO}, ¬ AbsMO W H a m
  | .lst _, ⟨xs, h, r⟩ => by rw [hn] at h; cases h
  | .rol ds, ⟨xs, h, r⟩ => by rcases h with h | ⟨o, h⟩ <;> (rw [hn] at h; cases h)
  | .dic _, h => Dic.there h hn
  | .rdc _, h => Dic.there h hn
  | .ftp _, ⟨ob, vs, h, hd, r⟩ => by rw [hn] at h; cases h
  | .raw _, h => by have q : H a = some _ := h; rw [hn] at q; cases q
theorem AbsH.sub {W : Wd} {H : Hp} {G G' : Gp} (h : AbsH W H G') (s : Sub G G') : AbsH W H G := fun a m e => h a m (s a m e)

/-- slots as data -/
abbrev Sd := List (Option D)
structure AbsS (W : Wd) (H : Hp) (σ : L2.St) (σd : Sd) : Prop where
  len : σ.length = σd.length
  get : ∀ (i : Nat) (d : D), σd[i]? = some (some d) → ∃ v, σ[i]? = some (some v) ∧ RelD W.K H d v
theorem AbsS.mono {W : Wd} {H H' : Hp} {σ : L2.St} {σd : Sd} (t : Tk W.K H H') (h : AbsS W H σ σd) : AbsS W H' σ σd :=
  ⟨h.len, fun i d e => let ⟨v, e1, r⟩ := h.get i d e; ⟨v, e1, r.mono t⟩⟩
theorem AbsS.set {W : Wd} {H : Hp} {σ : L2.St} {σd : Sd} {i : Nat} {d : D} {v : V} (h : AbsS W H σ σd) (r : RelD W.K H d v) : AbsS W H (σ.set i (some v)) (σd.set i (some d)) := by
  refine ⟨by simpa using h.len, fun j e he => ?_⟩
  by_cases hj : i = j
  · subst hj
    have hi : i < σd.length := by
      have := (List.getElem?_eq_some_iff.mp he).1
      simpa using this
    rw [List.getElem?_set_self hi] at he
    cases he
    exact ⟨v, by rw [List.getElem?_set_self (by rw [h.len]; exact hi)], r⟩
  · rw [List.getElem?_set_ne hj] at he
    obtain ⟨u, e1, r1⟩ := h.get j e he
    exact ⟨u, by rw [List.getElem?_set_ne hj]; exact e1, r1⟩

/-! ### readings over data, lifted -/
abbrev QD := D → Gp → Prop
abbrev TD := Sd → Gp → QD → Prop
abbrev TTd := Sd → Gp → (Bool → Gp → Prop) → Prop
abbrev TAd := Sd → Gp → (List D → Gp → Prop) → Prop
abbrev TGd := D → Sd → Gp → (Sd → Gp → Prop) → Prop
abbrev TGsd := List D → Sd → Gp → (Sd → Gp → Prop) → Prop
structure Ed where
  nx : Sd → Gp → Prop
  rt : QD
  bk : Sd → Gp → Prop := fun _ _ => False
  ct : Sd → Gp → Prop := fun _ _ => False
abbrev TSd := Ed → Sd → Gp → Prop

/-- what is behind: a wish over data answers a wish over values -/
def Wish (W : Wd) (H : Hp) (q : QD) (Q : VK) : Prop := ∀ v H' d G', Tk W.K H H' → AbsH W H' G' → RelD W.K H' d v → q d G' → Q v H'
theorem Wish.mono {W : Wd} {H H' : Hp} {q : QD} {Q : VK} (t : Tk W.K H H') (h : Wish W H q Q) : Wish W H' q Q := fun v H2 d G2 t2 => h v H2 d G2 (t.trans t2)
def lift (W : Wd) (t : TD) : TE := fun σ H Q => ∃ σd G q, AbsS W H σ σd ∧ AbsH W H G ∧ t σd G q ∧ Wish W H q Q
def liftT (W : Wd) (t : TTd) : TT := fun σ H Q => ∃ σd G q, AbsS W H σ σd ∧ AbsH W H G ∧ t σd G q ∧ ∀ b H' G', Tk W.K H H' → AbsH W H' G' → q b G' → Q b H'
def liftA (W : Wd) (t : TAd) : TA := fun σ H Q => ∃ σd G q, AbsS W H σ σd ∧ AbsH W H G ∧ t σd G q ∧ ∀ vs H' ds G', Tk W.K H H' → AbsH W H' G' → RelDs W.K H' ds vs → q ds G' → Q vs H'
def liftG (W : Wd) (t : TGd) : TG := fun v σ H Q => ∃ d σd G q, RelD W.K H d v ∧ AbsS W H σ σd ∧ AbsH W H G ∧ t d σd G q ∧ ∀ σ' H' σd' G', Tk W.K H H' → AbsS W H' σ' σd' → AbsH W H' G' → q σd' G' → Q σ' H'
def liftGs (W : Wd) (t : TGsd) : TGs := fun vs σ H Q => ∃ ds σd G q, RelDs W.K H ds vs ∧ AbsS W H σ σd ∧ AbsH W H G ∧ t ds σd G q ∧ ∀ σ' H' σd' G', Tk W.K H H' → AbsS W H' σ' σd' → AbsH W H' G' → q σd' G' → Q σ' H'
structure Link (W : Wd) (H : Hp) (E : Ed) (F : Ends) : Prop where
  nx : ∀ σ' H' σd' G', Tk W.K H H' → AbsS W H' σ' σd' → AbsH W H' G' → E.nx σd' G' → F.nx σ' H'
  rt : Wish W H E.rt F.rt
  bk : ∀ σ' H' σd' G', Tk W.K H H' → AbsS W H' σ' σd' → AbsH W H' G' → E.bk σd' G' → F.bk σ' H'
  ct : ∀ σ' H' σd' G', Tk W.K H H' → AbsS W H' σ' σd' → AbsH W H' G' → E.ct σd' G' → F.ct σ' H'
theorem Link.mono {W : Wd} {H H' : Hp} {E : Ed} {F : Ends} (t : Tk W.K H H') (l : Link W H E F) : Link W H' E F :=
  ⟨fun σ' H2 σd' G' t2 => l.nx σ' H2 σd' G' (t.trans t2), l.rt.mono t, fun σ' H2 σd' G' t2 => l.bk σ' H2 σd' G' (t.trans t2), fun σ' H2 σd' G' t2 => l.ct σ' H2 σd' G' (t.trans t2)⟩
def liftS (W : Wd) (t : TSd) : TS := fun F σ H => ∃ σd G E, AbsS W H σ σd ∧ AbsH W H G ∧ t E σd G ∧ Link W H E F

/-! ### weakening -/
section
variable {X : Cx}
theorem PE.imp {e : Expr} {t t' : TE} (h : PE X e t) (i : ∀ σ H Q, t' σ H Q → t σ H Q) : PE X e t' := ⟨fun pins s σ H Q I q => h.run pins s σ H Q I (i σ H Q q)⟩
theorem PT.imp {e : Expr} {t t' : TT} (h : PT X e t) (i : ∀ σ H Q, t' σ H Q → t σ H Q) : PT X e t' := ⟨fun pins s σ H Q I q => h.run pins s σ H Q I (i σ H Q q)⟩
theorem PW.imp {e : Expr} {t t' : TT} (h : PW X e t) (i : ∀ σ H Q, t' σ H Q → t σ H Q) : PW X e t' := ⟨fun wh pins s σ H Q I q => h.run wh pins s σ H Q I (i σ H Q q)⟩
theorem PA.imp {es : List Expr} {t t' : TA} (h : PA X es t) (i : ∀ σ H Q, t' σ H Q → t σ H Q) : PA X es t' := ⟨fun pos pins s σ H Q I q => h.run pos pins s σ H Q I (i σ H Q q)⟩
theorem PS.imp {st : Stmt} {t t' : TS} (h : PS X st t) (i : ∀ F σ H, t' F σ H → t F σ H) : PS X st t' := ⟨fun pins s σ H F I q => h.run pins s σ H F I (i F σ H q)⟩
theorem PSs.imp {st : List Stmt} {t t' : TS} (h : PSs X st t) (i : ∀ F σ H, t' F σ H → t F σ H) : PSs X st t' := ⟨fun pins s σ H F I q => h.run pins s σ H F I (i F σ H q)⟩
theorem PG.imp {e : Expr} {t t' : TG} (h : PG X e t) (i : ∀ v σ H Q, t' v σ H Q → t v σ H Q) : PG X e t' := ⟨fun pins s σ H v u Q I r q => h.run pins s σ H v u Q I r (i v σ H Q q)⟩
theorem PGs.imp {e : List Expr} {t t' : TGs} (h : PGs X e t) (i : ∀ v σ H Q, t' v σ H Q → t v σ H Q) : PGs X e t' := ⟨fun pins s σ H v u Q I r q => h.run pins s σ H v u Q I r (i v σ H Q q)⟩
theorem OpR.imp {f : Value → Value → Sem Value} {r r' : R2} (h : OpR X f r) (i : ∀ x y H Q, r' x y H Q → r x y H Q) : OpR X f r' := fun pins s σ H x y v u Q I rx ry q => h pins s σ H x y v u Q I rx ry (i x y H Q q)
theorem UnR.imp {f : Value → Sem Value} {r r' : V → Hp → VK → Prop} (h : UnR X f r) (i : ∀ x H Q, r' x H Q → r x H Q) : UnR X f r' := fun pins s σ H x v Q I rx q => h pins s σ H x v Q I rx (i x H Q q)
theorem CallR.imp {f : Value} {r r' : List V → Hp → VK → Prop} (h : CallR X f r) (i : ∀ xs H Q, r' xs H Q → r xs H Q) : CallR X f r' := fun pins s σ H xs us Q I rx q => h pins s σ H xs us Q I rx (i xs H Q q)
/-! ### names, constants, operators -/
abbrev QE (X : Cx) (e : Expr) (t : TD) : Prop := PE X e (lift (wd X) t)
abbrev QT (X : Cx) (e : Expr) (t : TTd) : Prop := PT X e (liftT (wd X) t)
abbrev QW (X : Cx) (e : Expr) (t : TTd) : Prop := PW X e (liftT (wd X) t)
abbrev QA (X : Cx) (es : List Expr) (t : TAd) : Prop := PA X es (liftA (wd X) t)
abbrev QG (X : Cx) (e : Expr) (t : TGd) : Prop := PG X e (liftG (wd X) t)
abbrev QGs (X : Cx) (es : List Expr) (t : TGsd) : Prop := PGs X es (liftGs (wd X) t)
abbrev QS (X : Cx) (st : Stmt) (t : TSd) : Prop := PS X st (liftS (wd X) t)
abbrev QSs (X : Cx) (st : List Stmt) (t : TSd) : Prop := PSs X st (liftS (wd X) t)

def dVar (i : Nat) : TD := fun σ G q => match σ[i]? with
  | some (some d) => q d G
  | _ => False
def dC (d : D) : TD := fun _ G q => q d G
theorem qe_var {i : Nat} {x : Str} {pos : Pos} (hN : X.N[i]? = some x) (hv : Vis X.env.scope x) (hd : (x == ("__debug__" : Str)) = false := by decide) (hcd : (x == ("__classdict__" : Str)) = false := by decide) : QE X (.Name x pos) (dVar i) :=
  PE.imp (pe_var hN hv hd hcd) fun σ H Q ⟨σd, G, q, hS, hG, h, hw⟩ => by
    unfold dVar at h
    split at h
    · rename_i d e
      obtain ⟨v, e1, r⟩ := hS.get i d e
      exact ⟨v, e1, hw v H d G Tk.refl hG r h⟩
    · exact h.elim
theorem qe_c {e : Expr} {v : V} {d : D} (h : PE X e (tC v)) (r : ∀ K H, RelD K H d v) : QE X e (dC d) :=
  PE.imp h fun σ H Q ⟨σd, G, q, hS, hG, h, hw⟩ => hw v H d G Tk.refl hG (r _ _) h
theorem qe_int {i j pos} : QE X (.Constant (.int i) j pos) (dC (.int i)) := qe_c pe_int fun _ _ => rfl
theorem qe_bl {b j pos} : QE X (.Constant (.bool b) j pos) (dC (.bl b)) := qe_c pe_bl fun _ _ => rfl
theorem qe_non {j pos} : QE X (.Constant .none j pos) (dC .non) := qe_c pe_non fun _ _ => rfl
theorem qe_str {x j pos} : QE X (.Constant (.str x) j pos) (dC (.str x)) := qe_c pe_str fun _ _ => rfl

/-- a two-place operation over data -/
abbrev R2d := D → D → Gp → QD → Prop
def lift2 (W : Wd) (r : R2d) : R2 := fun x y H Q => ∃ d e G q, RelD W.K H d x ∧ RelD W.K H e y ∧ AbsH W H G ∧ r d e G q ∧ Wish W H q Q
def lift1 (W : Wd) (r : D → Gp → QD → Prop) : V → Hp → VK → Prop := fun x H Q => ∃ d G q, RelD W.K H d x ∧ AbsH W H G ∧ r d G q ∧ Wish W H q Q
def liftN (W : Wd) (r : List D → Gp → QD → Prop) : List V → Hp → VK → Prop := fun xs H Q => ∃ ds G q, RelDs W.K H ds xs ∧ AbsH W H G ∧ r ds G q ∧ Wish W H q Q
def dOp (r : R2d) (ta tb : TD) : TD := fun σ G q => ta σ G fun x G1 => tb σ G1 fun y G2 => r x y G2 q
def dUn (r : D → Gp → QD → Prop) (ta : TD) : TD := fun σ G q => ta σ G fun x G1 => r x G1 q
variable {a b c : Expr} {ta tb tc : TD} {pos : Pos}
theorem lift_op {W : Wd} {r : R2d} {σ : L2.St} {H : Hp} {Q : VK} (h : lift W (dOp r ta tb) σ H Q) : tOp (lift2 W r) (lift W ta) (lift W tb) σ H Q := by
  obtain ⟨σd, G, q, hS, hG, h, hw⟩ := h
  refine ⟨σd, G, _, hS, hG, h, fun v H1 d G1 t1 hG1 r1 h1 => ?_⟩
  refine ⟨σd, G1, _, hS.mono t1, hG1, h1, fun u H2 e G2 t2 hG2 r2 h2 => ?_⟩
  exact ⟨d, e, G2, q, r1.mono t2, r2, hG2, h2, hw.mono (t1.trans t2)⟩
theorem lift_un {W : Wd} {r : D → Gp → QD → Prop} {σ : L2.St} {H : Hp} {Q : VK} (h : lift W (dUn r ta) σ H Q) : tUn (lift1 W r) (lift W ta) σ H Q := by
  obtain ⟨σd, G, q, hS, hG, h, hw⟩ := h
  exact ⟨σd, G, _, hS, hG, h, fun v H1 d G1 t1 hG1 r1 h1 => ⟨d, G1, q, r1, hG1, h1, hw.mono t1⟩⟩
theorem qe_op {op : Operator} {r : R2d} (ho : OpR X (binaryOp op) (lift2 (wd X) r)) (ha : QE X a ta) (hb : QE X b tb) : QE X (.BinOp a op b pos) (dOp r ta tb) := PE.imp (pe_op ho ha hb) fun _ _ _ h => lift_op h
theorem qe_un {op : UnaryOp} {r : D → Gp → QD → Prop} (ho : UnR X (unaryOp op) (lift1 (wd X) r)) (ha : QE X a ta) : QE X (.UnaryOp op a pos) (dUn r ta) := PE.imp (pe_un ho ha) fun _ _ _ h => lift_un h
theorem qe_cmp {op : CmpOp} {r : R2d} (ho : OpR X (compareOp op) (lift2 (wd X) r)) (ha : QE X a ta) (hb : QE X b tb) (hm : behindInMarks op b = false) : QE X (.Compare a [op] [b] pos) (dOp r ta tb) := PE.imp (pe_cmpR ho ha hb hm) fun _ _ _ h => lift_op h
/-- a value that is True or False -/
def isB (q : Bool → Gp → Prop) : QD := fun d G => match d with
  | .bl b => q b G
  | _ => False
def dTest (t : TD) : TTd := fun σ G q => t σ G (isB q)
theorem isB_of {W : Wd} {H : Hp} {q : Bool → Gp → Prop} {Q : Bool → Hp → Prop} (h : ∀ b H' G', Tk W.K H H' → AbsH W H' G' → q b G' → Q b H') : Wish W H (isB q) fun x H' => ∃ k, x = .bl k ∧ Q k H' := fun v H' d G' t hG r hq => by
  cases d with
  | bl b => exact ⟨b, r, h b H' G' t hG hq⟩
  | _ => exact hq.elim
theorem qt_cmp {op : CmpOp} {r : R2d} (ho : OpR X (compareOp op) (lift2 (wd X) r)) (ha : QE X a ta) (hb : QE X b tb) (hm : behindInMarks op b = false) : QT X (.Compare a [op] [b] pos) (dTest (dOp r ta tb)) :=
  PT.imp (pt_cmpR ho ha hb hm) fun σ H Q ⟨σd, G, q, hS, hG, h, hw⟩ => lift_op ⟨σd, G, isB q, hS, hG, h, isB_of hw⟩
/-- any expression that gives True or False, as a test -/
theorem qt_val {e : Expr} {t : TD} (h : QE X e t) (he : ∀ whole, isTrue e X.env whole = (do let v ← whole; standAt e.pos; holding [v] (truthy v)) := by intro _; rfl) : QT X e (dTest t) :=
  PT.imp (pt_val h he) fun σ H Q ⟨σd, G, q, hS, hG, h, hw⟩ => ⟨σd, G, isB q, hS, hG, h, isB_of hw⟩
/-! ### not, and, or, if -/
variable {tA tB : TTd} {rest : List Expr}
def dNot (t : TTd) : TTd := fun σ G q => t σ G fun c G1 => q (!c) G1
def dAnd (t u : TTd) : TTd := fun σ G q => t σ G fun c G1 => if c = true then u σ G1 q else q false G1
def dOr (t u : TTd) : TTd := fun σ G q => t σ G fun c G1 => if c = true then q true G1 else u σ G1 q
theorem qt_not (h : QT X a tA) : QT X (.UnaryOp .Not a pos) (dNot tA) :=
  PT.imp (pt_not h) fun σ H Q ⟨σd, G, q, hS, hG, h, hw⟩ => ⟨σd, G, _, hS, hG, h, fun b H' G' t hG' hq => hw _ H' G' t hG' hq⟩
theorem qw_and1 (h : QT X a tA) : QW X (.BoolOp .And [a] pos) tA := pw_and1 h
theorem qw_or1 (h : QT X a tA) : QW X (.BoolOp .Or [a] pos) tA := pw_or1 h
theorem qw_and (ha : QT X a tA) (hb : QW X (.BoolOp .And (b :: rest) pos) tB) : QW X (.BoolOp .And (a :: b :: rest) pos) (dAnd tA tB) :=
  PW.imp (pw_and ha hb) fun σ H Q ⟨σd, G, q, hS, hG, h, hw⟩ => ⟨σd, G, _, hS, hG, h, fun c H1 G1 t1 hG1 h1 => by
    cases c with
    | true => exact ⟨σd, G1, q, hS.mono t1, hG1, h1, fun b H' G' t hG' hq => hw b H' G' (t1.trans t) hG' hq⟩
    | false => exact hw false H1 G1 t1 hG1 h1⟩
theorem qw_or (ha : QT X a tA) (hb : QW X (.BoolOp .Or (b :: rest) pos) tB) : QW X (.BoolOp .Or (a :: b :: rest) pos) (dOr tA tB) :=
  PW.imp (pw_or ha hb) fun σ H Q ⟨σd, G, q, hS, hG, h, hw⟩ => ⟨σd, G, _, hS, hG, h, fun c H1 G1 t1 hG1 h1 => by
    cases c with
    | false => exact ⟨σd, G1, q, hS.mono t1, hG1, h1, fun b H' G' t hG' hq => hw b H' G' (t1.trans t) hG' hq⟩
    | true => exact hw true H1 G1 t1 hG1 h1⟩
def dIfE (t : TTd) (ta tb : TD) : TD := fun σ G q => t σ G fun c G1 => if c = true then ta σ G1 q else tb σ G1 q
theorem qe_if {c : Expr} (hc : QT X c tA) (ha : QE X a ta) (hb : QE X b tb) : QE X (.IfExp c a b pos) (dIfE tA ta tb) :=
  PE.imp (pe_ifExp hc ha hb) fun σ H Q ⟨σd, G, q, hS, hG, h, hw⟩ => ⟨σd, G, _, hS, hG, h, fun c H1 G1 t1 hG1 h1 => by
    cases c with
    | true => exact ⟨σd, G1, q, hS.mono t1, hG1, h1, hw.mono t1⟩
    | false => exact ⟨σd, G1, q, hS.mono t1, hG1, h1, hw.mono t1⟩⟩
/-- as values: True, False -/
def dNotV (ta : TD) : TD := fun σ G q => ta σ G (isB fun c G1 => q (.bl (!c)) G1)
def dAndV (ta tb : TD) : TD := fun σ G q => ta σ G (isB fun c G1 => if c = true then tb σ G1 q else q (.bl false) G1)
def dOrV (ta tb : TD) : TD := fun σ G q => ta σ G (isB fun c G1 => if c = true then q (.bl true) G1 else tb σ G1 q)
theorem qe_not (ha : QE X a ta) : QE X (.UnaryOp .Not a pos) (dNotV ta) :=
  PE.imp (pe_not ha) fun σ H Q ⟨σd, G, q, hS, hG, h, hw⟩ => ⟨σd, G, _, hS, hG, h, isB_of fun b H' G' t hG' hq => hw _ H' (.bl _) G' t hG' rfl hq⟩
theorem qe_one {op} {t : TD} (h : QE X a t) : QE X (.BoolOp op [a] pos) t := pe_one h
theorem qe_and (ha : QE X a ta) (hb : QE X (.BoolOp .And (b :: rest) pos) tb) : QE X (.BoolOp .And (a :: b :: rest) pos) (dAndV ta tb) :=
  PE.imp (pe_and ha hb) fun σ H Q ⟨σd, G, q, hS, hG, h, hw⟩ => ⟨σd, G, _, hS, hG, h, isB_of fun c H1 G1 t1 hG1 h1 => by
    cases c with
    | true => exact ⟨σd, G1, q, hS.mono t1, hG1, h1, hw.mono t1⟩
    | false => exact hw _ H1 (.bl _) G1 t1 hG1 rfl h1⟩
theorem qe_or (ha : QE X a ta) (hb : QE X (.BoolOp .Or (b :: rest) pos) tb) : QE X (.BoolOp .Or (a :: b :: rest) pos) (dOrV ta tb) :=
  PE.imp (pe_or ha hb) fun σ H Q ⟨σd, G, q, hS, hG, h, hw⟩ => ⟨σd, G, _, hS, hG, h, isB_of fun c H1 G1 t1 hG1 h1 => by
    cases c with
    | false => exact ⟨σd, G1, q, hS.mono t1, hG1, h1, hw.mono t1⟩
    | true => exact hw _ H1 (.bl _) G1 t1 hG1 rfl h1⟩
end
end DL
/-! DL2: statements, loops, calls of own defs, over data. -/
namespace DL
open PySem PySem.Spec PyProof.Rows L2
section
variable {X : Cx} {st : Stmt} {rest : List Stmt} {t u : TSd} {e : Expr} {te : TD} {pos : Pos}
/-! ### blocks -/
def dNext : TSd := fun E σ G => E.nx σ G
def dSeq (t u : TSd) : TSd := fun E σ G => t { E with nx := u E } σ G
theorem qss_nil : QSs X [] dNext := PSs.imp pss_nil fun F σ H ⟨σd, G, E, hS, hG, h, l⟩ => l.nx σ H σd G Tk.refl hS hG h
theorem qss_cons (h1 : QS X st t) (h2 : QSs X rest u) : QSs X (st :: rest) (dSeq t u) :=
  PSs.imp (pss_cons h1 h2) fun F σ H ⟨σd, G, E, hS, hG, h, l⟩ => ⟨σd, G, { E with nx := u E }, hS, hG, h, ⟨fun σ' H' σd' G' tk hS' hG' h' => ⟨σd', G', E, hS', hG', h', l.mono tk⟩, l.rt, l.bk, l.ct⟩⟩
theorem qss_one (h1 : QS X st t) : QSs X [st] t := pss_one h1
def dBreak : TSd := fun E σ G => E.bk σ G
def dCont : TSd := fun E σ G => E.ct σ G
theorem qs_pass : QS X (.Pass pos) dNext := PS.imp ps_pass fun F σ H ⟨σd, G, E, hS, hG, h, l⟩ => l.nx σ H σd G Tk.refl hS hG h
theorem qs_break : QS X (.Break pos) dBreak := PS.imp ps_break fun F σ H ⟨σd, G, E, hS, hG, h, l⟩ => l.bk σ H σd G Tk.refl hS hG h
theorem qs_continue : QS X (.Continue pos) dCont := PS.imp ps_continue fun F σ H ⟨σd, G, E, hS, hG, h, l⟩ => l.ct σ H σd G Tk.refl hS hG h
def dDrop (te : TD) : TSd := fun E σ G => te σ G fun _ G1 => E.nx σ G1
theorem qs_expr (he : QE X e te) (hs : swapsWith e none pos.line X.env = pure false := by rfl) : QS X (.Expr e pos) (dDrop te) :=
  PS.imp (ps_expr he hs) fun F σ H ⟨σd, G, E, hS, hG, h, l⟩ => ⟨σd, G, _, hS, hG, h, fun v H1 d G1 tk hG1 _ h1 => l.nx σ H1 σd G1 tk (hS.mono tk) hG1 h1⟩
def dRet (te : TD) : TSd := fun E σ G => te σ G E.rt
theorem qs_ret (he : QE X e te) : QS X (.Return (some e) pos) (dRet te) := PS.imp (ps_ret he) fun F σ H ⟨σd, G, E, hS, hG, h, l⟩ => ⟨σd, G, _, hS, hG, h, l.rt⟩
def dRetN : TSd := fun E _ G => E.rt .non G
theorem qs_retN : QS X (.Return none pos) dRetN := PS.imp ps_retN fun F σ H ⟨σd, G, E, hS, hG, h, l⟩ => l.rt .non H .non G Tk.refl hG rfl h
def dIf (c : TTd) (t u : TSd) : TSd := fun E σ G => c σ G fun b G1 => if b = true then t E σ G1 else u E σ G1
theorem qs_if {c : Expr} {a b : List Stmt} {tc : TTd} (hc : QT X c tc) (ha : QSs X a t) (hb : QSs X b u) : QS X (.If c a b pos) (dIf tc t u) :=
  PS.imp (ps_if hc ha hb) fun F σ H ⟨σd, G, E, hS, hG, h, l⟩ => ⟨σd, G, _, hS, hG, h, fun b H1 G1 tk hG1 h1 => by
    cases b with
    | true => exact ⟨σd, G1, E, hS.mono tk, hG1, h1, l.mono tk⟩
    | false => exact ⟨σd, G1, E, hS.mono tk, hG1, h1, l.mono tk⟩⟩
/-! ### targets -/
def dName (i : Nat) : TGd := fun d σ G q => q (σ.set i (some d)) G
theorem qg_name {i : Nat} {x : Str} (hN : X.N.Nodup) (hi : X.N[i]? = some x) (hx : Loc X.env.scope x) (hf : X.fn x = true ∨ X.env.scope.names.lookup x = some .local := by first | exact .inl rfl | exact .inr rfl | assumption) : QG X (.Name x pos) (dName i) :=
  PG.imp (pg_name hN hi hx hf) fun v σ H Q ⟨d, σd, G, q, r, hS, hG, h, hw⟩ => hw _ H _ G Tk.refl (hS.set r) hG h
def dGnil : TGsd := fun ds σ G q => ds = [] ∧ q σ G
def dGcons (t : TGd) (u : TGsd) : TGsd := fun ds σ G q => match ds with
  | d :: r => t d σ G fun σ' G' => u r σ' G' q
  | [] => False
theorem qgs_nil : QGs X [] dGnil := PGs.imp pgs_nil fun vs σ H Q ⟨ds, σd, G, q, r, hS, hG, ⟨e, h⟩, hw⟩ => by
  subst e
  exact ⟨r, hw σ H σd G Tk.refl hS hG h⟩
theorem qgs_cons {e : Expr} {es : List Expr} {t : TGd} {u : TGsd} (h1 : QG X e t) (h2 : QGs X es u)
    (hs : (assignEach (e :: es) X.env).map (·.2) = assign e X.env :: (assignEach es X.env).map (·.2) := by rfl) : QGs X (e :: es) (dGcons t u) :=
  PGs.imp (pgs_cons h1 h2 hs) fun vs σ H Q ⟨ds, σd, G, q, r, hS, hG, h, hw⟩ => by
    cases ds with
    | nil => exact h.elim
    | cons d ds =>
      obtain ⟨x, xs, rfl, r1, r2⟩ := r
      exact ⟨x, xs, rfl, d, σd, G, _, r1, hS, hG, h, fun σ1 H1 σd1 G1 tk hS1 hG1 h1 => ⟨ds, σd1, G1, q, r2.mono tk, hS1, hG1, h1, fun σ2 H2 σd2 G2 tk2 => hw σ2 H2 σd2 G2 (tk.trans tk2)⟩⟩
/-- (a, b, ..) = a tuple -/
def dTupG (n : Nat) (t : TGsd) : TGd := fun d σ G q => match d with
  | .tup ds => ds.length = n ∧ t ds σ G q
  | _ => False
theorem qg_tup {es : List Expr} {k : Nat} {t : TGsd} {n : Nat} (hc : X.calm = true) (h : QGs X es t)
    (hn : (assignEach es X.env).length = n := by rfl) (hst : (assignEach es X.env).findIdx? (·.1) = none := by rfl) : QG X (.Tuple es k pos) (dTupG n t) :=
  PG.imp (pg_tup hc h hn hst) fun v σ H Q ⟨d, σd, G, q, r, hS, hG, hh, hw⟩ => by
    cases d with
    | tup ds =>
      obtain ⟨a, xs, e, hq, rr⟩ := r
      exact ⟨a, xs, e, hq, rr.length.trans hh.1, ds, σd, G, q, rr, hS, hG, hh.2, hw⟩
    | _ => exact hh.elim
def dAsg (te : TD) (g : TGd) : TSd := fun E σ G => te σ G fun d G1 => g d σ G1 E.nx
theorem lift_asg {W : Wd} {te : TD} {g : TGd} {F : Ends} {σ : L2.St} {H : Hp} (h : liftS W (dAsg te g) F σ H) : tAsg (lift W te) (liftG W g) F σ H := by
  obtain ⟨σd, G, E, hS, hG, h, l⟩ := h
  exact ⟨σd, G, _, hS, hG, h, fun v H1 d G1 tk hG1 r h1 => ⟨d, σd, G1, E.nx, r, hS.mono tk, hG1, h1, fun σ' H' σd' G' tk' => l.nx σ' H' σd' G' (tk.trans tk')⟩⟩
theorem qs_asg {tg e : Expr} {te : TD} {g : TGd} (he : QE X e te) (hg : QG X tg g) (hs : swapsWithSole [tg] e pos.line X.env = pure false := by rfl) (hw : swappedStores [tg] e X.env = pure none := by rfl)
    (h1 : (assignEach [tg] X.env).map (·.2) = [assign tg X.env] := by rfl) : QS X (.Assign [tg] e pos) (dAsg te g) := PS.imp (ps_asg he hg hs hw h1) fun _ _ _ h => lift_asg h
/-- name = value -/
theorem qs_set {i : Nat} {x : Str} {e : Expr} {te : TD} {pos' : Pos} (hN : X.N.Nodup) (hi : X.N[i]? = some x) (hx : Loc X.env.scope x) (he : QE X e te) (hs : swapsWith e (some (.Name x pos')) pos.line X.env = pure false := by rfl) (hf : X.fn x = true ∨ X.env.scope.names.lookup x = some .local := by first | exact .inl rfl | exact .inr rfl | assumption) :
    QS X (.Assign [.Name x pos'] e pos) (dAsg te (dName i)) := PS.imp (ps_set hN hi hx he hs hf) fun F σ H h => by
  obtain ⟨σd, G, E, hS, hG, h, l⟩ := h
  exact ⟨σd, G, _, hS, hG, h, fun v H1 d G1 tk hG1 r h1 => l.nx _ H1 _ G1 tk ((hS.mono tk).set r) hG1 h1⟩
/-! ### arguments, displays -/
variable {es : List Expr} {ta : TAd}
def dNil : TAd := fun _ G q => q [] G
def dCons (te : TD) (tr : TAd) : TAd := fun σ G q => te σ G fun d G1 => tr σ G1 fun ds G2 => q (d :: ds) G2
theorem qa_nil : QA X [] dNil := PA.imp pa_nil fun σ H Q ⟨σd, G, q, hS, hG, h, hw⟩ => hw [] H [] G Tk.refl hG rfl h
theorem qa_cons (he : QE X e te) (hr : QA X es ta) (hs : starEach (e :: es) X.env = (false, eval e X.env) :: starEach es X.env := by rfl) : QA X (e :: es) (dCons te ta) :=
  PA.imp (pa_cons he hr hs) fun σ H Q ⟨σd, G, q, hS, hG, h, hw⟩ => ⟨σd, G, _, hS, hG, h, fun v H1 d G1 tk hG1 r h1 =>
    ⟨σd, G1, _, hS.mono tk, hG1, h1, fun vs H2 ds G2 tk2 hG2 r2 h2 => hw _ H2 _ G2 (tk.trans tk2) hG2 (RelDs.cons (r.mono tk2) r2) h2⟩⟩
/-- a new object of ours in the heap -/
theorem AbsH.none {W : Wd} {H : Hp} {G : Gp} {p : Addr} (h : AbsH W H G) (hp : H p = Option.none) : G p = Option.none := by
  cases e : G p with
  | none => rfl
  | some m => exact ((h p m e).there hp).elim
theorem AbsH.upd {W : Wd} {H : Hp} {G : Gp} {p : Addr} {o : HO} {m : MO} (h : AbsH W H G) (t : Tk W.K H (L2.upd H p o)) (new : AbsMO W (L2.upd H p o) p m) : AbsH W (L2.upd H p o) (gup G p m) := fun a n e => by
  by_cases q : a = p
  · subst q
    rw [gup_same] at e
    cases e
    exact new
  · rw [gup_ne q] at e
    exact (h a n e).mono t (upd_ne q)
/-- what is laid behind the data's back -/
theorem AbsH.laid {W : Wd} {H : Hp} {G : Gp} {p : Addr} {o : HO} (h : AbsH W H G) (hp : H p = Option.none) : AbsH W (L2.upd H p o) G := fun a n e => by
  by_cases q : a = p
  · subst q
    exact ((h a n e).there hp).elim
  · exact (h a n e).mono (Tk.new hp) (upd_ne q)
def dTup (ta : TAd) : TD := fun σ G q => ta σ G fun ds G1 => ds.length ≤ sizeLine ∧ q (.tup ds) G1
theorem qe_tup {x1} (h : QA X es ta) : QE X (.Tuple es x1 pos) (dTup ta) :=
  PE.imp (pe_tup h) fun σ H Q ⟨σd, G, q, hS, hG, h, hw⟩ => ⟨σd, G, _, hS, hG, h, fun vs H1 ds G1 tk hG1 r h1 => ⟨by rw [r.length]; exact h1.1, fun p hp => by
    refine hw _ _ (.tup ds) G1 (tk.trans (Tk.new hp)) (hG1.laid hp) ⟨p, vs, rfl, SqT.of upd_same, r.mono (Tk.new hp)⟩ h1.2⟩⟩
/-- [a, b]: a new list -/
def newO (m : MO) (q : QD) (G : Gp) : Prop := ∀ p, G p = none → q (.ref p) (gup G p m)
theorem new_lst {W : Wd} {H : Hp} {G : Gp} {q : QD} {Q : VK} {ds : List D} {vs : List V} {p : Addr} (hG : AbsH W H G) (hw : Wish W H q Q) (r : RelDs W.K H ds vs) (h : newO (.lst ds) q G) (hp : H p = none) : Q (.ref p) (L2.upd H p (.lst vs)) := by
  have tk : Tk W.K H (L2.upd H p (.lst vs)) := Tk.new hp
  exact hw _ _ (.ref p) _ tk (hG.upd (m := .lst ds) tk ⟨vs, upd_same, r.mono tk⟩) rfl (h p (hG.none hp))
def dLst (ta : TAd) : TD := fun σ G q => ta σ G fun ds G1 => ds.length ≤ sizeLine ∧ newO (.lst ds) q G1
theorem qe_lst (h : QA X es ta) : QE X (.List es pos) (dLst ta) :=
  PE.imp (pe_lst h) fun σ H Q ⟨σd, G, q, hS, hG, h, hw⟩ => ⟨σd, G, _, hS, hG, h, fun vs H1 ds G1 tk hG1 r h1 => ⟨by rw [r.length]; exact h1.1, fun p hp => new_lst hG1 (hw.mono tk) r h1.2 hp⟩⟩
def dNewD : TD := fun _ G q => newO (.dic []) q G
theorem qe_dnew : QE X (.Dict [] [] pos) dNewD :=
  PE.imp pe_dnewK fun σ H Q ⟨σd, G, q, hS, hG, h, hw⟩ => fun p hp => hw _ _ (.ref p) _ (Tk.new hp) (hG.upd (m := .dic []) (Tk.new hp) (Or.inl ⟨[], upd_same, .nil⟩)) rfl (h p (hG.none hp))

/-! ### loops -/
/-- what is behind a turn: some part of the heap is known -/
def fin (P : Gp → Prop) (G : Gp) : Prop := ∃ G', Sub G' G ∧ P G'
theorem fin.of {P : Gp → Prop} {G : Gp} (h : P G) : fin P G := ⟨G, Sub.refl, h⟩
def dWhile (c : TTd) (tb : TSd) : TSd := fun E σ G => ∃ W : Nat → Sd → Gp → Prop, (∃ m, fin (W m σ) G) ∧ ∀ m σ G, W m σ G →
  c σ G fun b G1 => if b = true then tb { E with nx := fun σ' G' => ∃ m', m' < m ∧ fin (W m' σ') G', ct := fun σ' G' => ∃ m', m' < m ∧ fin (W m' σ') G', bk := E.nx } σ G1 else E.nx σ G1
theorem qs_while {c : Expr} {body : List Stmt} {tc : TTd} {tb : TSd} (hp : PassesOwn (model X.prog X.w) X.A X.env X.xe) (hc : QT X c tc) (hb : QSs X body tb) : QS X (.While c body [] pos) (dWhile tc tb) :=
  PS.imp (ps_while hp hc hb) fun F σ H ⟨σd, G, E, hS, hG, ⟨W, ⟨m0, G0, s0, w0⟩, turn⟩, l⟩ => by
    refine ⟨fun m σ1 H1 => ∃ σd1 G1, Tk X.K H H1 ∧ AbsS (wd X) H1 σ1 σd1 ∧ AbsH (wd X) H1 G1 ∧ W m σd1 G1, ⟨m0, σd, G0, Tk.refl, hS, hG.sub s0, w0⟩, fun m σ1 H1 ⟨σd1, G1, tk1, hS1, hG1, w1⟩ => ?_⟩
    refine ⟨σd1, G1, _, hS1, hG1, turn m σd1 G1 w1, fun b H2 G2 tk2 hG2 h2 => ?_⟩
    cases b with
    | true =>
      refine ⟨fun σ' H' => ∃ m', m' < m ∧ ∃ σd1 G1, Tk X.K H H' ∧ AbsS (wd X) H' σ' σd1 ∧ AbsH (wd X) H' G1 ∧ W m' σd1 G1, fun _ _ z => z, ?_⟩
      have back : ∀ σ' H' σd' G', Tk X.K H2 H' → AbsS (wd X) H' σ' σd' → AbsH (wd X) H' G' → (∃ m', m' < m ∧ fin (W m' σd') G') → ∃ m', m' < m ∧ ∃ σd1 G1, Tk X.K H H' ∧ AbsS (wd X) H' σ' σd1 ∧ AbsH (wd X) H' G1 ∧ W m' σd1 G1 :=
        fun σ' H' σd' G' tk hS' hG' ⟨m', lt, G3, s3, w3⟩ => ⟨m', lt, σd', G3, (tk1.trans tk2).trans tk, hS', hG'.sub s3, w3⟩
      have t12 := tk1.trans tk2
      exact ⟨σd1, G2, _, hS1.mono tk2, hG2, h2, ⟨back, l.rt.mono t12, fun σ' H' σd' G' tk => l.nx σ' H' σd' G' (t12.trans tk), back⟩⟩
    | false => exact l.nx σ1 H2 σd1 G2 (tk1.trans tk2) (hS1.mono tk2) hG2 h2

/-- what a loop walks: the items, and what must stand at each turn -/
abbrev TId := Sd → Gp → (List D → (Gp → Prop) → Gp → Prop) → Prop
structure JOk (W : Wd) (H0 : Hp) (J : It) (ds : List D) (st : Gp → Prop) : Prop where
  go : ∀ i H G, Tk W.K H0 H → AbsH W H G → st G → i < ds.length → J.go i H
  yld : ∀ i d H x H', J.yld i H x H' → ∀ G, Tk W.K H0 H → AbsH W H G → st G → ds[i]? = some d → Tk W.K H H' ∧ AbsH W H' G ∧ RelD W.K H' d x
  stop : ∀ H G, Tk W.K H0 H → AbsH W H G → st G → J.stop ds.length H
def liftI (W : Wd) (ti : TId) : TI := fun σ H R => ∃ σd G r, AbsS W H σ σd ∧ AbsH W H G ∧ ti σd G r ∧ ∀ J H' ds st G', Tk W.K H H' → AbsH W H' G' → JOk W H' J ds st → r ds st G' → R J H'
abbrev QI (X : Cx) (tg iter : Expr) (ti : TId) : Prop := PI X tg iter (liftI (wd X) ti)
theorem PI.imp {tg e : Expr} {t t' : TI} (h : PI X tg e t) (i : ∀ σ H Q, t' σ H Q → t σ H Q) : PI X tg e t' := ⟨fun pins s σ H Q I q => h.run pins s σ H Q I (i σ H Q q)⟩
def dFor (ti : TId) (g : TGd) (tb : TSd) : TSd := fun E σ G => ti σ G fun ds st G1 => ∃ W : Nat → Sd → Gp → Prop, fin (W 0 σ) G1 ∧ (∀ i σ G, W i σ G → st G) ∧
  (∀ i d σ G, ds[i]? = some d → W i σ G → g d σ G fun σ2 G2 => tb { E with nx := fun σ' G' => fin (W (i + 1) σ') G', ct := fun σ' G' => fin (W (i + 1) σ') G', bk := E.nx } σ2 G2) ∧ ∀ σ G, W ds.length σ G → E.nx σ G
theorem qs_for {tg iter : Expr} {body : List Stmt} {ti : TId} {g : TGd} {tb : TSd} (hp : PassesOwn (model X.prog X.w) X.A X.env X.xe) (hc : X.calm = true) (hi : QI X tg iter ti) (hg : QG X tg g) (hb : QSs X body tb)
    (hs : ∀ x, foldedSetIterable iter X.env x = pure x := by intro _; rfl) : QS X (.For tg iter body [] pos) (dFor ti g tb) :=
  PS.imp (ps_for hp hc hi hg hb hs) fun F σ H ⟨σd, G, E, hS, hG, h, l⟩ => by
    refine ⟨σd, G, _, hS, hG, h, fun J H1 ds sta G1 tk1 hG1 jo ⟨W, ⟨G0, s0, w0⟩, stay, turn, done⟩ => ?_⟩
    refine ⟨fun i m σ2 H2 => i + m = ds.length ∧ ∃ σd2 G2, Tk X.K H1 H2 ∧ AbsS (wd X) H2 σ2 σd2 ∧ AbsH (wd X) H2 G2 ∧ W i σd2 G2, ⟨ds.length, by omega, σd, G0, Tk.refl, hS.mono tk1, hG1.sub s0, w0⟩, fun i m σ2 H2 ⟨em, σd2, G2, tk2, hS2, hG2, w2⟩ => ?_⟩
    by_cases hi : i < ds.length
    · refine .inr ⟨jo.go i H2 G2 tk2 hG2 (stay i σd2 G2 w2) hi, fun σ' H' => ∃ m', m' < m ∧ i + 1 + m' = ds.length ∧ ∃ σd2 G2, Tk X.K H1 H' ∧ AbsS (wd X) H' σ' σd2 ∧ AbsH (wd X) H' G2 ∧ W (i + 1) σd2 G2, fun σ' H' z => z, fun x H3 hy => ?_⟩
      obtain ⟨tk3, hG3, r3⟩ := jo.yld i ds[i] H2 x H3 hy G2 tk2 hG2 (stay i σd2 G2 w2) (List.getElem?_eq_getElem hi)
      have back : ∀ σ' H' σd' G', Tk X.K H3 H' → AbsS (wd X) H' σ' σd' → AbsH (wd X) H' G' → fin (W (i + 1) σd') G' → ∃ m', m' < m ∧ i + 1 + m' = ds.length ∧ ∃ σd2 G2, Tk X.K H1 H' ∧ AbsS (wd X) H' σ' σd2 ∧ AbsH (wd X) H' G2 ∧ W (i + 1) σd2 G2 :=
        fun σ' H' σd' G' tk hS' hG' ⟨G5, s5, w5⟩ => ⟨m - 1, by omega, by omega, σd', G5, (tk2.trans tk3).trans tk, hS', hG'.sub s5, w5⟩
      refine ⟨ds[i], σd2, G2, _, r3, hS2.mono tk3, hG3, turn i ds[i] σd2 G2 (List.getElem?_eq_getElem hi) w2, fun σ4 H4 σd4 G4 tk4 hS4 hG4 h4 => ?_⟩
      have t4 := ((tk1.trans tk2).trans tk3).trans tk4
      exact ⟨σd4, G4, _, hS4, hG4, h4, ⟨fun σ' H' σd' G' tk => back σ' H' σd' G' (tk4.trans tk), l.rt.mono t4, fun σ' H' σd' G' tk => l.nx σ' H' σd' G' (t4.trans tk), fun σ' H' σd' G' tk => back σ' H' σd' G' (tk4.trans tk)⟩⟩
    · have ei : i = ds.length := by omega
      subst ei
      exact .inl ⟨jo.stop H2 G2 tk2 hG2 (stay _ σd2 G2 w2), l.nx σ2 H2 σd2 G2 (tk1.trans tk2) hS2 hG2 (done σd2 G2 w2)⟩
def ListAt (G : Gp) (a : Addr) (ds : List D) : Prop := G a = some (.lst ds) ∨ G a = some (.rol ds)
theorem ListAt.rd {W : Wd} {H : Hp} {G : Gp} {a : Addr} {ds : List D} (h : ListAt G a ds) (hG : AbsH W H G) : ∃ xs, Rd H a (.lst xs) ∧ RelDs W.K H ds xs := by
  rcases h with h | h
  · obtain ⟨xs, e, r⟩ := hG _ _ h
    exact ⟨xs, .inl e, r⟩
  · exact hG _ _ h
theorem Rd.uni {H : Hp} {a : Addr} {xs ys : List V} (h : Rd H a (.lst xs)) (h' : Rd H a (.lst ys)) : (∀ {P : Program} {w : World} {hh : Heap}, HOk P w H hh → xs = ys) := fun {P w hh} ok => by
  have q1 := h.ok ok
  have q2 := h'.ok ok
  obtain ⟨_, i1, n1, r1, e1⟩ : xs.length ≤ sizeLine ∧ ∃ (its : List Value) (n : Nat), Vals xs its ∧ hh.get? a = some { cls := .type "list", data := .seq its.toArray n } := q1
  obtain ⟨_, i2, n2, r2, e2⟩ : ys.length ≤ sizeLine ∧ ∃ (its : List Value) (n : Nat), Vals ys its ∧ hh.get? a = some { cls := .type "list", data := .seq its.toArray n } := q2
  rw [e1] at e2
  injection e2 with e2
  have e3 : i1 = i2 := by
    injection e2 with _ _ e2 _
    injection e2 with e2 _
    simpa using congrArg Array.toList e2
  subst e3
  exact r1.inj r2

/-- over a list, a tuple -/
def dIt (te : TD) : TId := fun σ G r => te σ G fun d G1 => match d with
  | .tup ds => r ds (fun _ => True) G1
  | .ref a => ∃ ds, ListAt G1 a ds ∧ r ds (fun G => ListAt G a ds) G1
  | _ => False
theorem pie_list {pins : List (Addr × Obj)} {σ : L2.St} {H1 : Hp} {s1 : Shared} {a : Addr} {xs : List V} {tg : Expr} {R : It → Hp → Prop} {E : Value → Shared → Prop} (I1 : Inv X pins σ H1 s1) (hq : SqL X.K H1 a xs) (q : R (Itl X.K a) H1) :
    wpAny (model X.prog X.w) X.A (pyIter (.ref a)) (PIE X pins σ tg R) E s1 := by
  obtain ⟨its, rv, p, hz⟩ := I1.list hq
  refine wpAny_pyIter_list p.isList ?_
  refine ⟨s1.heap.objs.size, [s1.heap.objs.size], _, _, H1, rfl, I1.kept (t' := s1.toks) fun b o e => Heap.get?_push_of_some _ e, turn_list a _, ⟨_, Heap.get?_push_size _ rfl, rfl, rfl⟩, fun b hb => ?_, q⟩
  have e : b = s1.heap.objs.size := by simpa using hb
  subst e
  exact I1.fpOk (Nat.le_refl _) (I1.hok.fresh (Nat.le_refl _))
theorem pie_tup {pins : List (Addr × Obj)} {σ : L2.St} {H1 : Hp} {s1 : Shared} {a : Addr} {xs : List V} {tg : Expr} {R : It → Hp → Prop} {E : Value → Shared → Prop} (I1 : Inv X pins σ H1 s1) (hq : SqT X.K H1 a xs) (q : R (Itt X.K a) H1) :
    wpAny (model X.prog X.w) X.A (pyIter (.ref a)) (PIE X pins σ tg R) E s1 := by
  obtain ⟨its, rv, p, hz⟩ := I1.tuple hq
  refine wpAny_pyIter_tuple (show s1.heap.IsTuple a its.toArray from p) ?_
  refine ⟨s1.heap.objs.size, [s1.heap.objs.size], _, _, H1, rfl, I1.kept (t' := s1.toks) fun b o e => Heap.get?_push_of_some _ e, turn_tuple a _, ⟨_, Heap.get?_push_size _ rfl, rfl, rfl⟩, fun b hb => ?_, q⟩
  have e : b = s1.heap.objs.size := by simpa using hb
  subst e
  exact I1.fpOk (Nat.le_refl _) (I1.hok.fresh (Nat.le_refl _))
theorem jok_list {W : Wd} {H0 : Hp} {a : Addr} {ds : List D} : JOk W H0 (Itl W.K a) ds (fun G => ListAt G a ds) where
  go := fun i H G _ hG hst hi => by
    obtain ⟨xs, rd, r⟩ := hst.rd hG
    have hx : i < xs.length := by rw [r.length]; exact hi
    exact ⟨xs, xs[i], .inl rd, List.getElem?_eq_getElem hx⟩
  yld := fun i d H x H' hy G _ hG hst hd => by
    obtain ⟨rfl, fx⟩ := hy
    obtain ⟨xs, rd, r⟩ := hst.rd hG
    obtain ⟨y, ey, ry⟩ := r.get hd
    have := (fx xs (.inl rd)).symm.trans ey
    cases this
    exact ⟨Tk.refl, hG, ry⟩
  stop := fun H G _ hG hst => by
    obtain ⟨xs, rd, r⟩ := hst.rd hG
    exact ⟨xs, .inl rd, by rw [r.length]; exact Nat.le_refl _⟩
theorem jok_tup {W : Wd} {H0 : Hp} {a : Addr} {ds : List D} {xs : List V} (hq : SqT W.K H0 a xs) (hr : RelDs W.K H0 ds xs) : JOk W H0 (Itt W.K a) ds (fun _ => True) where
  go := fun i H G tk _ _ hi => by
    have hx : i < xs.length := by rw [hr.length]; exact hi
    exact ⟨xs, xs[i], tk.sq _ _ hq, List.getElem?_eq_getElem hx⟩
  yld := fun i d H x H' hy G tk hG _ hd => by
    obtain ⟨rfl, fx⟩ := hy
    obtain ⟨y, ey, ry⟩ := (hr.mono tk).get hd
    have := (fx xs (tk.sq _ _ hq)).symm.trans ey
    cases this
    exact ⟨Tk.refl, hG, ry⟩
  stop := fun H G tk _ _ => ⟨xs, tk.sq _ _ hq, by rw [hr.length]; exact Nat.le_refl _⟩
theorem qi_it {tg l : Expr} {te : TD} (hl : QE X l te) : QI X tg l (dIt te) := by
  refine ⟨fun pins s σ H R I h => ?_⟩
  obtain ⟨σd, G, r, hS, hG, h, hw⟩ := h
  refine thn (hl.run pins s σ H (fun v H1 => ∃ d G1, Tk X.K H H1 ∧ AbsH (wd X) H1 G1 ∧ RelD X.K H1 d v ∧ match d with
    | .tup ds => r ds (fun _ => True) G1
    | .ref a => ∃ ds, ListAt G1 a ds ∧ r ds (fun G => ListAt G a ds) G1
    | _ => False) I ⟨σd, G, _, hS, hG, h, fun v H1 d G1 t1 hG1 r1 h1 => ⟨d, G1, t1, hG1, r1, h1⟩⟩) fun v s1 ⟨x, H1, I1, rx, d, G1, t1, hG1, rd, q⟩ => ?_
  cases d with
  | tup ds =>
    obtain ⟨a, xs, e, hq, rr⟩ := rd
    subst e
    cases rx
    exact pie_tup I1 hq (hw _ H1 ds _ G1 t1 hG1 (jok_tup hq rr) q)
  | ref a =>
    obtain rfl : x = .ref a := rd
    cases rx
    obtain ⟨ds, hst, q⟩ := q
    obtain ⟨xs, e, rr⟩ := hst.rd hG1
    exact pie_list I1 (.inl e) (hw _ H1 ds _ G1 t1 hG1 jok_list q)
  | _ => exact q.elim
def rngOk (n : Int) : Prop := -(2 ^ 62) ≤ n ∧ n < 2 ^ 62
def arg1 (ds : List D) (k : D → Prop) : Prop := match ds with
  | [d] => k d
  | _ => False
def arg2 (ds : List D) (k : D → D → Prop) : Prop := match ds with
  | [d, e] => k d e
  | _ => False
theorem arg1_of {W : Wd} {H : Hp} {ds : List D} {vs : List V} {k : D → Prop} (h : arg1 ds k) (r : RelDs W.K H ds vs) : ∃ d v, ds = [d] ∧ vs = [v] ∧ RelD W.K H d v ∧ k d := by
  cases ds with
  | nil => exact h.elim
  | cons d ds =>
    cases ds with
    | cons e es => exact h.elim
    | nil =>
      obtain ⟨v, _, e1, e2, e3⟩ := r
      have e3 : _ = ([] : List V) := e3
      subst e3
      exact ⟨d, v, rfl, e1, e2, h⟩
theorem arg2_of {W : Wd} {H : Hp} {ds : List D} {vs : List V} {k : D → D → Prop} (h : arg2 ds k) (r : RelDs W.K H ds vs) : ∃ d e v u, ds = [d, e] ∧ vs = [v, u] ∧ RelD W.K H d v ∧ RelD W.K H e u ∧ k d e := by
  cases ds with
  | nil => exact h.elim
  | cons d ds =>
    cases ds with
    | nil => exact h.elim
    | cons e es =>
      cases es with
      | cons e es => exact h.elim
      | nil =>
        obtain ⟨v, _, e1, e2, u, _, e3, e4, e5⟩ := r
        have e5 : _ = ([] : List V) := e5
        subst e5 e3
        exact ⟨d, e, v, u, rfl, e1, e2, e4, h⟩
def isI (d : D) (k : Int → Prop) : Prop := match d with
  | .int i => k i
  | _ => False
theorem isI_of {K : PySem.W.Frag} {H : Hp} {d : D} {v : V} {k : Int → Prop} (h : isI d k) (r : RelD K H d v) : ∃ i, d = .int i ∧ v = .int i ∧ k i := by
  cases d with
  | int i => exact ⟨i, rfl, r, h⟩
  | _ => exact h.elim
/-- range(n), range(a, b) -/
def dRange1 (ta : TAd) : TId := fun σ G r => ta σ G fun ds G1 => arg1 ds fun d => isI d fun n => rngOk n ∧ r ((List.range n.toNat).map fun i => .int (i : Nat)) (fun _ => True) G1
def dRange2 (ta : TAd) : TId := fun σ G r => ta σ G fun ds G1 => arg2 ds fun d e => isI d fun a => isI e fun b => (rngOk a ∧ rngOk b) ∧ r ((List.range (b - a).toNat).map fun i => .int (a + (i : Nat))) (fun _ => True) G1
/-- a list, a tuple by its items, and what must stand -/
def isSeq (d : D) (G : Gp) (r : List D → (Gp → Prop) → Prop) : Prop := match d with
  | .tup ds => r ds fun _ => True
  | .ref a => ∃ ds, ListAt G a ds ∧ r ds fun G => ListAt G a ds
  | _ => False
theorem isSeq_of {X : Cx} {H : Hp} {G : Gp} {d : D} {v : V} {r : List D → (Gp → Prop) → Prop} (h : isSeq d G r) (rd : RelD X.K H d v) (hG : AbsH (wd X) H G) :
    ∃ ds st, r ds st ∧ ((∃ a xs, v = .ref a ∧ SqT X.K H a xs ∧ RelDs X.K H ds xs ∧ st = fun _ => True) ∨ ∃ a xs, v = .ref a ∧ SqL X.K H a xs ∧ RelDs X.K H ds xs ∧ st = fun G => ListAt G a ds) := by
  cases d with
  | tup ds =>
    obtain ⟨a, xs, e, hq, rr⟩ := rd
    exact ⟨ds, _, h, .inl ⟨a, xs, e, hq, rr, rfl⟩⟩
  | ref a =>
    obtain rfl : v = .ref a := rd
    obtain ⟨ds, hst, q⟩ := h
    obtain ⟨xs, hq, rr⟩ := hst.rd hG
    exact ⟨ds, _, q, .inr ⟨a, xs, rfl, .inl hq, rr, rfl⟩⟩
  | _ => exact h.elim
end
end DL
/-! DL3: range, enumerate. -/
namespace PySem
open Sem (wp)
open AutoSeq1 (wpAny_loadPart')
set_option maxHeartbeats 1000000 in
theorem dl_enumerate_newB {v : Value} {o : Obj} {H : Heap → Prop} (B : Begins v o H) :
    Meets (Builtin.«enumerate.__new__» ⟨[.type "enumerate", v], []⟩) (fun _ R s => H s.heap ∧
      R (.ok (.ret (.ref (s.heap.push o).objs.size))) { s with heap := (s.heap.push o).push { cls := .type "enumerate", data := .fields #[.none, .bool false, .ref s.heap.objs.size, rawInt 0, .none, .none] } }) :=
  .of_wp fun prog w A R s h => by
    obtain ⟨hp, g, d, tk, os⟩ := s
    obtain ⟨h1, h⟩ := h
    have hsub := sub_enumerate
    have q1 : ∀ {A' : Around} {E : Value → Shared → Prop} {Q : Value → Shared → Prop}, Q (.ref hp.objs.size) ⟨hp.push o, g, d, tk, os⟩ → wpAny (model prog w) A' (pyIter v) Q E ⟨hp, g, d, tk, os⟩ :=
      fun q => B.iter prog w _ _ ⟨hp, g, d, tk, os⟩ _ h1 q
    wp_walk using q1
    refine wpAny_stack_any fun st => wpAny_pure ?_
    split
    · rename_i c _ _ _ _ _
      cases (c == Value.type "enumerate")
      · wp_walk using q1
        exact ⟨_, rfl, h⟩
      · wp_walk using q1
        exact ⟨_, rfl, h⟩
    · wp_walk using q1
      exact ⟨_, rfl, h⟩
theorem dl_enum_begins {prog : Program} {w : World} {A : Around} {E : Value → Shared → Prop} {s : Shared} {v : Value} {o : Obj} {H : Heap → Prop} {Q : Value → Shared → Prop} (B : Begins v o H) (h1 : H s.heap)
    (h : ∀ h', IsEnum h' (s.heap.objs.size + 1) s.heap.objs.size 0 .none → h'.get? s.heap.objs.size = some o → h'.objs.size = s.heap.objs.size + 2 →
      (∀ b o, s.heap.get? b = some o → h'.get? b = some o) → Q (.ref (s.heap.objs.size + 1)) { s with heap := h' }) :
    wpAny (model prog w) A (call (.type "enumerate") [v]) Q E s := by
  refine callType_new F.called_enumerate (by decide) (F.typeCall_enumerate_1 _) (F.newCall_enumerate_1 _) (fun obj => F.args_object_init_2 obj _) F.entry_enumerate_new
    (dl_enumerate_newB B) ⟨h1, ?_⟩
  have hz : (s.heap.push o).objs.size = s.heap.objs.size + 1 := Heap.size_push ..
  show _ ∧ _
  rw [hz]
  have he : IsEnum ((s.heap.push o).push { cls := .type "enumerate", data := .fields #[.none, .bool false, .ref s.heap.objs.size, rawInt 0, .none, .none] }) (s.heap.objs.size + 1) s.heap.objs.size 0 .none := by
    have := Heap.get?_push_size (s.heap.push o) (o := { cls := .type "enumerate", data := .fields #[.none, .bool false, .ref s.heap.objs.size, rawInt 0, .none, .none] }) rfl
    rw [hz] at this; exact this
  refine ⟨⟨_, he, rfl⟩, h _ he (Heap.get?_push_of_some _ (Heap.get?_push_size _ B.free)) (by rw [Heap.size_push, hz]) fun b o x => Heap.get?_push_of_some _ (Heap.get?_push_of_some _ x)⟩
end PySem
namespace DL
open PySem PySem.Spec PyProof.Rows L2
/-- the tuple at a, each item in a new pair -/
def IteT (K : PySem.W.Frag) (a : Addr) : It :=
  ⟨fun i H => ∃ (xs : List V) (x : V), SqT K H a xs ∧ xs[i]? = some x, fun i H v H' => ∃ T x, v = .ref T ∧ H T = none ∧ H' = upd H T (.tup [.int (i : Nat), x]) ∧ ∀ xs, SqT K H a xs → xs[i]? = some x, fun i H => ∃ xs : List V, SqT K H a xs ∧ xs.length = i⟩
theorem turn_enumT {P : Program} {w : World} {K : PySem.W.Frag} {elts : List Expr} {kk : Nat} {tpos : Pos} (a e it : Addr) :
    Turn P w K (.Tuple elts kk tpos) (IteT K a) [e, it] e (fun i h => (∃ old, IsEnum h e it ((i : Nat) : Int) old) ∧ h.IsTupleIter it a i ∧ e ≠ it ∧ a ≠ it ∧ a ≠ e) where
  mem := by simp
  obj := fun i h st b hb => by
    obtain ⟨⟨old, he⟩, ⟨o, ho, hc, hd⟩, _⟩ := st
    have e' : b = e ∨ b = it := by simpa using hb
    rcases e' with z | z
    · rw [z]; exact ⟨_, he, fun v q => nomatch q⟩
    · rw [z]; exact ⟨o, ho, fun v q => by rw [hd] at q; cases q⟩
  keep := fun i h h' st k => let ⟨⟨old, he⟩, hi, hne⟩ := st; ⟨⟨old, k e (by simp) _ he⟩, hi.at fun o q => k it (by simp) o q, hne⟩
  item := by
    intro X hP hw hK hc i pins s σ H E I hf st hg
    subst hP hw hK
    obtain ⟨⟨old, he⟩, hit, hne, hai, hae⟩ := st
    obtain ⟨xs, x, hq, hx⟩ := hg
    obtain ⟨its, rv, p, hz⟩ := I.tuple hq
    obtain ⟨u, hu, ru⟩ := rv.get hx
    have hlt : i < its.toArray.size := by
      have := (List.getElem?_eq_some_iff.mp hu).1
      simpa using this
    have hel : e < s.heap.objs.size := Heap.lt_size he
    have hil : it < s.heap.objs.size := by obtain ⟨_, q, _⟩ := hit; exact Heap.lt_size q
    have hh : X.A.in1.handled = none := I.ok.hd hc
    refine wpAny_pyNext_enum_itemD (Draws.tuple (prog := X.prog) (w := X.w) (A := X.A.in1) hh it a hai its.toArray) he ⟨hit, p⟩ hlt hne (by simp [hne, Ne.symm hae]) fun v h' tk hP ho hst hT hsz hk => ?_
    have ev : v = u := by
      have : its.toArray[i]? = some u := by simpa using hu
      exact Option.some.inj (hP.symm.trans this)
    subst ev
    refine ⟨_, rfl, wpAny_letOwnedTupleGo_enum (s := { s with heap := h', toks := tk + 1 }) ho fun h'' he' sb => ?_⟩
    have hT2 : h''.get? s.heap.objs.size = some { cls := .type "tuple", data := .seq #[.int i tk, v] } := (sb.2 _ (Nat.ne_of_gt hel)).trans hT
    have new : ObjOk X.prog X.w (upd H s.heap.objs.size (.tup [.int (i : Nat), x])) h'' s.heap.objs.size (.tup [.int (i : Nat), x]) :=
      ⟨by show 2 ≤ sizeLine; decide, [.int i tk, v], .cons ⟨_, rfl⟩ (.cons ru .nil), ⟨_, hT2, rfl, _, rfl⟩⟩
    have I1 : Inv X pins σ (upd H s.heap.objs.size (.tup [.int (i : Nat), x])) { s with heap := h'', toks := tk + 1 } :=
      I.turnedNew (ch := [e, it]) (fun b ob hb q => (sb.2 b (fun z => hb (by simp [z]))).trans (hk b ob (fun z => hb (by simp [z])) (fun z => hb (by simp [z])) q)) hf (Nat.le_refl _) new
    refine ⟨.ref s.heap.objs.size, _, I1, rfl, ⟨_, x, rfl, I.hok.fresh (Nat.le_refl _), rfl, fun ys hy => by rw [I.tuple_inj hy hq]; exact hx⟩, ⟨⟨v, ?_⟩, hst.1.at fun o q => (sb.2 it (Ne.symm hne)).trans q, hne, hai, hae⟩, fun b hb => ?_⟩
    · have e1 : ((i + 1 : Nat) : Int) = (i : Int) + 1 := by omega
      rw [e1]; exact he'
    · have hb' : b < s.heap.objs.size := by
        have e' : b = e ∨ b = it := by simpa using hb
        rcases e' with z | z
        · rw [z]; exact hel
        · rw [z]; exact hil
      rw [upd_ne (Nat.ne_of_lt hb')]
      exact (hf b hb).1
  done := by
    intro X hP hw hK hc i pins s σ H E I hf st hg
    subst hP hw hK
    obtain ⟨⟨old, he⟩, hit, hne, hai, hae⟩ := st
    obtain ⟨xs, hq, hx⟩ := hg
    obtain ⟨its, rv, p, hz⟩ := I.tuple hq
    obtain ⟨f0, f1, f2, f3, f4, f5⟩ := hf it (by simp)
    have hl := rv.length
    have hh : X.A.in1.handled = none := I.ok.hd hc
    have hi : its.toArray.size = i := by
      have : its.toArray.size = its.length := by simp
      omega
    refine wpAny_pyNext_enum_endD (Draws.tuple (prog := X.prog) (w := X.w) (A := X.A.in1) hh it a hai its.toArray) he (by rw [hi]; exact ⟨hit, p⟩) fun h' eb => ⟨rfl, I.turned (t' := s.toks) (fun b o hb q => eb b o hb q) f0 f1 f3 f4 f5⟩
  self := fun A i s Q E st h => let ⟨⟨_, he⟩, _⟩ := st; wpAny_pyIter_enum he h

section
variable {X : Cx} {tg : Expr}
def enumD (ds : List D) : List D := ds.mapIdx fun i d => .tup [.int (i : Nat), d]
theorem enumD_get {ds : List D} {i : Nat} : (enumD ds)[i]? = (ds[i]?).map fun d => .tup [.int (i : Nat), d] := by
  unfold enumD
  rw [List.getElem?_mapIdx]
theorem enumD_len {ds : List D} : (enumD ds).length = ds.length := by unfold enumD; simp
theorem pair_new {W : Wd} {H : Hp} {T : Addr} {d : D} {x y : V} (e : D) (hT : H T = none) (r : RelD W.K H d y) (r0 : RelD W.K H e x) : RelD W.K (upd H T (.tup [x, y])) (.tup [e, d]) (.ref T) := by
  have tk : Tk W.K H (upd H T (.tup [x, y])) := Tk.new hT
  exact ⟨T, [x, y], rfl, SqT.of upd_same, RelDs.cons (r0.mono tk) (RelDs.cons (r.mono tk) RelDs.nil)⟩
theorem jok_enumL {W : Wd} {H0 : Hp} {a : Addr} {ds : List D} : JOk W H0 (Ite W.K a) (enumD ds) (fun G => ListAt G a ds) where
  go := fun i H G _ hG hst hi => by
    obtain ⟨xs, rd, r⟩ := hst.rd hG
    rw [enumD_len] at hi
    have hx : i < xs.length := by rw [r.length]; exact hi
    exact ⟨xs, xs[i], .inl rd, List.getElem?_eq_getElem hx⟩
  yld := fun i d H x H' hy G _ hG hst hd => by
    obtain ⟨T, y, rfl, hT, rfl, fx⟩ := hy
    obtain ⟨xs, rd, r⟩ := hst.rd hG
    rw [enumD_get] at hd
    obtain ⟨e, he, rfl⟩ := Option.map_eq_some_iff.mp hd
    obtain ⟨z, ez, rz⟩ := r.get he
    have := (fx xs (.inl rd)).symm.trans ez
    cases this
    exact ⟨Tk.new hT, hG.laid hT, pair_new (.int (i : Nat)) hT rz rfl⟩
  stop := fun H G _ hG hst => by
    obtain ⟨xs, rd, r⟩ := hst.rd hG
    exact ⟨xs, .inl rd, by rw [r.length, enumD_len]; exact Nat.le_refl _⟩
theorem jok_enumT {W : Wd} {H0 : Hp} {a : Addr} {ds : List D} {xs : List V} (hq : SqT W.K H0 a xs) (hr : RelDs W.K H0 ds xs) : JOk W H0 (IteT W.K a) (enumD ds) (fun _ => True) where
  go := fun i H G tk _ _ hi => by
    rw [enumD_len] at hi
    have hx : i < xs.length := by rw [hr.length]; exact hi
    exact ⟨xs, xs[i], tk.sq _ _ hq, List.getElem?_eq_getElem hx⟩
  yld := fun i d H x H' hy G tk hG _ hd => by
    obtain ⟨T, y, rfl, hT, rfl, fx⟩ := hy
    rw [enumD_get] at hd
    obtain ⟨e, he, rfl⟩ := Option.map_eq_some_iff.mp hd
    obtain ⟨z, ez, rz⟩ := (hr.mono tk).get he
    have := (fx xs (tk.sq _ _ hq)).symm.trans ez
    cases this
    exact ⟨Tk.new hT, hG.laid hT, pair_new (.int (i : Nat)) hT rz rfl⟩
  stop := fun H G tk _ _ => ⟨xs, tk.sq _ _ hq, by rw [hr.length, enumD_len]⟩
theorem jok_range {W : Wd} {H0 : Hp} {lo : Int} {n : Nat} : JOk W H0 (Itr lo n) ((List.range n).map fun i => .int (lo + (i : Nat))) (fun _ => True) where
  go := fun i H G _ _ _ hi => by
    have : i < n := by simpa using hi
    exact this
  yld := fun i d H x H' hy G _ hG _ hd => by
    obtain ⟨rfl, rfl⟩ := hy
    rw [List.getElem?_map] at hd
    obtain ⟨j, hj, rfl⟩ := Option.map_eq_some_iff.mp hd
    have e : i = j := by
      rw [List.getElem?_range] at hj
      · exact Option.some.inj hj
      · have := (List.getElem?_eq_some_iff.mp hj).1
        simpa using this
    subst e
    exact ⟨Tk.refl, hG, rfl⟩
  stop := fun H G _ _ _ => by
    show n ≤ ((List.range n).map _).length
    simp
theorem qi_range1 {a : Expr} {ta : TAd} {p pos : Pos} (hg : Gl X "range") (hm : X.mg "range" = none) (ha : QA X [a] ta) (hs : starEach [a] X.env = [(false, eval a X.env)] := by rfl) : QI X tg (.Call (.Name "range" p) [a] [] pos) (dRange1 ta) :=
  PI.imp (pi_range1 hg hm ha hs) fun σ H R ⟨σd, G, r, hS, hG, h, hw⟩ => ⟨σd, G, _, hS, hG, h, fun vs H1 ds G1 tk hG1 rr h1 => by
    obtain ⟨d, v, rfl, rfl, rd, h2⟩ := arg1_of h1 rr
    obtain ⟨n, rfl, rfl, h3, h4⟩ := isI_of h2 rd
    refine ⟨n, rfl, h3.1, h3.2, hw _ H1 _ _ G1 tk hG1 ?_ h4⟩
    have := jok_range (W := wd X) (H0 := H1) (lo := 0) (n := n.toNat)
    simpa only [Int.zero_add] using this⟩
theorem qi_range2 {a b : Expr} {ta : TAd} {p pos : Pos} (hg : Gl X "range") (hm : X.mg "range" = none) (ha : QA X [a, b] ta) (hs : starEach [a, b] X.env = [(false, eval a X.env), (false, eval b X.env)] := by rfl) (hs2 : starEach [b] X.env = [(false, eval b X.env)] := by rfl) :
    QI X tg (.Call (.Name "range" p) [a, b] [] pos) (dRange2 ta) :=
  PI.imp (pi_range2 hg hm ha hs hs2) fun σ H R ⟨σd, G, r, hS, hG, h, hw⟩ => ⟨σd, G, _, hS, hG, h, fun vs H1 ds G1 tk hG1 rr h1 => by
    obtain ⟨d, e, v, u, rfl, rfl, rd, re, h2⟩ := arg2_of h1 rr
    obtain ⟨n, rfl, rfl, h3⟩ := isI_of h2 rd
    obtain ⟨m, rfl, rfl, ⟨h4, h5⟩, h6⟩ := isI_of h3 re
    exact ⟨n, m, rfl, ⟨h4.1, h4.2, h5.1, h5.2⟩, hw _ H1 _ _ G1 tk hG1 jok_range h6⟩⟩
/-- enumerate of a list, a tuple -/
def dEnum (ta : TAd) : TId := fun σ G r => ta σ G fun ds G1 => arg1 ds fun d => isSeq d G1 fun es st => r (enumD es) st G1
theorem qi_enum {e : Expr} {ta : TAd} {p pos tpos : Pos} {elts : List Expr} {kk : Nat} (hg : Gl X "enumerate") (hm : X.mg "enumerate" = none) (ha : QA X [e] ta) (hs : starEach [e] X.env = [(false, eval e X.env)] := by rfl) :
    QI X (.Tuple elts kk tpos) (.Call (.Name "enumerate" p) [e] [] pos) (dEnum ta) := by
  refine ⟨fun pins s σ H R I h => ?_⟩
  obtain ⟨σd, G, r, hS, hG, h, hw⟩ := h
  have h0 : liftA (wd X) ta σ H (fun vs H1 => ∃ ds G1, Tk X.K H H1 ∧ AbsH (wd X) H1 G1 ∧ RelDs X.K H1 ds vs ∧ arg1 ds fun d => isSeq d G1 fun es st => r (enumD es) st G1) := ⟨σd, G, _, hS, hG, h, fun vs H1 ds G1 t1 hG1 r1 h1 => ⟨ds, G1, t1, hG1, r1, h1⟩⟩
  refine Call_ (ld_blt I hg hm boot_enumerate (PyProof.Rows.callWith_type1 (thn (ha.run pos pins s σ H _ I h0) fun us s1 ⟨vs, H1, I1, r1, q1⟩ => ?_) hs rfl))
  obtain ⟨ds, G1, t1, hG1, rr, q⟩ := q1
  obtain ⟨d, v, rfl, rfl, rd, q⟩ := arg1_of (W := wd X) q rr
  obtain ⟨u, rfl, ru⟩ := vals1 r1
  obtain ⟨es, st, q, ⟨a, xs, rfl, hq, re, rfl⟩ | ⟨a, xs, rfl, hq, re, rfl⟩⟩ := isSeq_of q rd hG1
  · cases ru
    obtain ⟨its, rv, p', hz⟩ := I1.tuple hq
    refine dl_enum_begins (begins_tuple a its.toArray) p' fun h' he hit hsz hk => wpAny_pyIter_enum he ?_
    have I2 : Inv X pins σ H1 { s1 with heap := h' } := I1.kept (t' := s1.toks) hk
    have hal : a < s1.heap.objs.size := by obtain ⟨o, ho, _⟩ := p'; exact Heap.lt_size ho
    refine ⟨s1.heap.objs.size + 1, [s1.heap.objs.size + 1, s1.heap.objs.size], _, _, H1, rfl, I2, turn_enumT a (s1.heap.objs.size + 1) s1.heap.objs.size, ⟨⟨.none, he⟩, ⟨_, hit, rfl, rfl⟩, Nat.succ_ne_self _, Nat.ne_of_lt hal, Nat.ne_of_lt (Nat.lt_succ_of_lt hal)⟩, fun b hb => ?_, hw _ H1 _ _ G1 t1 hG1 (jok_enumT hq re) q⟩
    have e' : b = s1.heap.objs.size + 1 ∨ b = s1.heap.objs.size := by simpa using hb
    have hle : s1.heap.objs.size ≤ b := by
      rcases e' with z | z
      · rw [z]; exact Nat.le_add_right _ _
      · rw [z]; exact Nat.le_refl _
    exact I1.fpOk hle (I1.hok.fresh hle)
  · cases ru
    obtain ⟨its, rv, p', hz⟩ := I1.list hq
    refine call_enumerate_list p'.isList fun h' he hit hsz hk => wpAny_pyIter_enum he ?_
    have I2 : Inv X pins σ H1 { s1 with heap := h' } := I1.kept (t' := s1.toks) hk
    refine ⟨s1.heap.objs.size + 1, [s1.heap.objs.size + 1, s1.heap.objs.size], _, _, H1, rfl, I2, turn_enum a (s1.heap.objs.size + 1) s1.heap.objs.size, ⟨⟨.none, he⟩, hit, Nat.succ_ne_self _⟩, fun b hb => ?_, hw _ H1 _ _ G1 t1 hG1 jok_enumL q⟩
    have e' : b = s1.heap.objs.size + 1 ∨ b = s1.heap.objs.size := by simpa using hb
    have hle : s1.heap.objs.size ≤ b := by
      rcases e' with z | z
      · rw [z]; exact Nat.le_add_right _ _
      · rw [z]; exact Nat.le_refl _
    exact I1.fpOk hle (I1.hok.fresh hle)
end
end DL
/-! DL4: comprehensions over data. -/
namespace DL
open PySem PySem.Spec PyProof.Rows L2
/-- a target: a name, a tuple of names -/
inductive Pat where
  | nm (i : Nat)
  | tp (is : List Nat)
def Pat.slots : Pat → List Nat
  | .nm i => [i]
  | .tp is => is
def namesG : List Nat → TGs
  | [] => gNil
  | i :: is => gCons (gName i) (namesG is)
def patV (K : PySem.W.Frag) : Pat → TG
  | .nm i => gName i
  | .tp is => gTup K is.length (namesG is)
def setAll : List Nat → List D → Sd → Option Sd
  | [], [], σ => some σ
  | i :: is, d :: ds, σ => setAll is ds (σ.set i (some d))
  | _, _, _ => none
def patD : Pat → D → Sd → Option Sd
  | .nm i, d, σ => some (σ.set i (some d))
  | .tp is, .tup ds, σ => setAll is ds σ
  | _, _, _ => none
def wipeD (σ : Sd) : List Nat → Sd
  | [] => σ
  | v :: vs => (wipeD σ vs).set v none
theorem AbsS.wipe {W : Wd} {H : Hp} {σ : L2.St} {σd : Sd} (h : AbsS W H σ σd) : ∀ vs : List Nat, AbsS W H (wipe σ vs) (wipeD σd vs)
  | [] => h
  | v :: vs => by
    have ih := AbsS.wipe h vs
    show AbsS W H ((L2.wipe σ vs).set v none) ((wipeD σd vs).set v none)
    refine ⟨by simpa using ih.len, fun i d e => ?_⟩
    by_cases hi : v = i
    · subst hi
      by_cases hv : v < (wipeD σd vs).length
      · rw [List.getElem?_set_self hv] at e; cases e
      · rw [List.getElem?_eq_none (by simpa using hv)] at e; cases e
    · rw [List.getElem?_set_ne hi] at e
      obtain ⟨u, e1, r⟩ := ih.get i d e
      exact ⟨u, by rw [List.getElem?_set_ne hi]; exact e1, r⟩
theorem wipe_set {σ : L2.St} {i : Nat} {x : Option V} : ∀ {vs : List Nat}, i ∈ vs → wipe (σ.set i x) vs = wipe σ vs
  | [], h => by cases h
  | v :: vs, h => by
    show (wipe (σ.set i x) vs).set v none = (wipe σ vs).set v none
    by_cases hi : i ∈ vs
    · rw [wipe_set hi]
    · have e : i = v := by
        rcases List.mem_cons.mp h with h | h
        · exact h
        · exact (hi h).elim
      subst e
      have all : ∀ vs : List Nat, i ∉ vs → wipe (σ.set i x) vs = (wipe σ vs).set i x := by
        intro vs
        induction vs with
        | nil => intro _; rfl
        | cons v vs ih =>
          intro hn
          show (wipe (σ.set i x) vs).set v none = ((wipe σ vs).set v none).set i x
          rw [ih (fun z => hn (List.mem_cons_of_mem _ z)), List.set_comm _ _ (fun z => hn (by rw [z]; exact List.mem_cons_self))]
      rw [all vs hi, List.set_set]
theorem wipe_wipe {σ : L2.St} (vs : List Nat) : wipe (wipe σ vs) vs = wipe σ vs := by
  have all : ∀ (us vs : List Nat), (∀ u ∈ us, u ∈ vs) → wipe (wipe σ us) vs = wipe σ vs := by
    intro us
    induction us with
    | nil => intro _ _; rfl
    | cons u us ih =>
      intro vs h
      show wipe ((wipe σ us).set u none) vs = _
      rw [wipe_set (h u List.mem_cons_self), ih vs fun z hz => h z (List.mem_cons_of_mem _ hz)]
  exact all vs vs fun _ h => h
theorem names_ok {W : Wd} {H : Hp} {vs : List Nat} : ∀ {is : List Nat} {ds : List D} {xs : List V} {σ : L2.St} {σd σd' : Sd} {Q : L2.St → Hp → Prop}, setAll is ds σd = some σd' → RelDs W.K H ds xs → AbsS W H σ σd → (∀ i ∈ is, i ∈ vs) →
    (∀ σ', AbsS W H σ' σd' → wipe σ' vs = wipe σ vs → Q σ' H) → namesG is xs σ H Q
  | [], [], xs, σ, σd, σd', Q, e, r, hS, _, h => by
    cases e
    exact ⟨r, h σ hS rfl⟩
  | i :: is, d :: ds, xs, σ, σd, σd', Q, e, r, hS, hi, h => by
    obtain ⟨x, xr, rfl, r1, r2⟩ := r
    exact ⟨x, xr, rfl, names_ok (is := is) e r2 (hS.set r1) (fun j hj => hi j (List.mem_cons_of_mem _ hj)) fun σ' hS' hw => h σ' hS' (hw.trans (wipe_set (hi i List.mem_cons_self)))⟩
  | [], _ :: _, _, _, _, _, _, e, _, _, _, _ => by cases e
  | _ :: _, [], _, _, _, _, _, e, _, _, _, _ => by cases e
theorem setAll_len : ∀ {is : List Nat} {ds : List D} {σd σd' : Sd}, setAll is ds σd = some σd' → ds.length = is.length
  | [], [], _, _, _ => rfl
  | _ :: is, _ :: ds, σd, σd', e => by
    rw [List.length_cons, List.length_cons, setAll_len (is := is) (ds := ds) e]
  | [], _ :: _, _, _, e => by cases e
  | _ :: _, [], _, _, e => by cases e
theorem pat_ok {W : Wd} {H : Hp} {vs : List Nat} {p : Pat} {d : D} {v : V} {σ : L2.St} {σd σd' : Sd} {Q : L2.St → Hp → Prop} (e : patD p d σd = some σd') (r : RelD W.K H d v) (hS : AbsS W H σ σd) (hi : ∀ i ∈ p.slots, i ∈ vs)
    (h : ∀ σ', AbsS W H σ' σd' → wipe σ' vs = wipe σ vs → Q σ' H) : patV W.K p v σ H Q := by
  cases p with
  | nm i =>
    cases e
    exact h _ (hS.set r) (wipe_set (hi i (by simp [Pat.slots])))
  | tp is =>
    cases d with
    | tup ds =>
      obtain ⟨a, xs, e1, hq, rr⟩ := r
      exact ⟨a, xs, e1, hq, by rw [rr.length, setAll_len e], names_ok e rr hS hi h⟩
    | _ => cases e
/-- over targets: what follows -/
def atPat (p : Pat) (d : D) (σ : Sd) (k : Sd → Prop) : Prop := match patD p d σ with
  | some σ' => k σ'
  | none => False
theorem atPat_of {p : Pat} {d : D} {σ : Sd} {k : Sd → Prop} (h : atPat p d σ k) : ∃ σ', patD p d σ = some σ' ∧ k σ' := by
  unfold atPat at h
  split at h
  · exact ⟨_, by assumption, h⟩
  · exact h.elim
def dYes : TTd := fun _ G q => q true G
/-- [elt for target in iter if ..] -/
def dLc (ti : TId) (p : Pat) (tt : TTd) (te : TD) (vs : List Nat) : TD := fun σ G q => ti σ G fun ds st G1 => ∀ a, G1 a = none → ∃ W : Nat → List D → Gp → Prop, W 0 [] G1 ∧ (∀ i acc G, W i acc G → st (gup G a (.lst acc))) ∧
  (∀ i d acc G, ds[i]? = some d → W i acc G → atPat p d (wipeD σ vs) fun σ2 => tt σ2 (gup G a (.lst acc)) fun b G3 =>
    if b = true then te σ2 G3 fun e G4 => G4 a = some (.lst acc) ∧ acc.length < sizeLine ∧ ∃ G5, Sub (gup G5 a (.lst (acc ++ [e]))) (gup G4 a (.lst (acc ++ [e]))) ∧ W (i + 1) (acc ++ [e]) G5
    else ∃ G5, Sub (gup G5 a (.lst acc)) G3 ∧ W (i + 1) acc G5) ∧ ∀ acc G, W ds.length acc G → q (.ref a) (gup G a (.lst acc))
section
variable {X : Cx}
abbrev Blk (X : Cx) (scope : Scope) (F : Cx → Prop) : Prop := ∀ (s : Shared) (H : Hp) (C : Addr) (cl : List (Str × Addr)) (fp : List Addr), F (X.blk s H scope (compEnvC scope cl C X.env) fp)
theorem PTs.imp {ifs : List Expr} {t t' : TT} (h : PTs X ifs t) (i : ∀ σ H Q, t' σ H Q → t σ H Q) : PTs X ifs t' := ⟨fun pins s σ H Q I q => h.run pins s σ H Q I (i σ H Q q)⟩
abbrev QTs (X : Cx) (ifs : List Expr) (t : TTd) : Prop := PTs X ifs (liftT (wd X) t)
theorem qts_nil : QTs X [] dYes := PTs.imp pts_nil fun σ H Q ⟨σd, G, q, hS, hG, h, hw⟩ => hw true H G Tk.refl hG h
theorem qts_one {c : Expr} {t : TTd} (h : QT X c t) : QTs X [c] t := pts_one h
theorem lift_lc {W : Wd} {ti : TId} {p : Pat} {tt : TTd} {te : TD} {vs : List Nat} (hv : ∀ i ∈ p.slots, i ∈ vs) {σ : L2.St} {H : Hp} {Q : VK} (h : lift W (dLc ti p tt te vs) σ H Q) : tLc (liftI W ti) (patV W.K p) (liftT W tt) (lift W te) vs σ H Q := by
  obtain ⟨σd, G, q, hS, hG, h, hw⟩ := h
  refine ⟨σd, G, _, hS, hG, h, fun J H1 ds sta G1 tk1 hG1 jo h1 D hD => ?_⟩
  obtain ⟨Wd, w0, stay, turn, done⟩ := h1 D (hG1.none hD)
  have tkD : Tk W.K H1 (upd H1 D (.lst [])) := Tk.new hD
  refine ⟨fun i m H2 => i + m = ds.length ∧ ∃ acc xs G2, Tk W.K H1 H2 ∧ H2 D = some (.lst xs) ∧ RelDs W.K H2 acc xs ∧ AbsH W H2 (gup G2 D (.lst acc)) ∧ Wd i acc G2,
    ⟨ds.length, by omega, [], [], G1, tkD, upd_same, RelDs.nil, hG1.upd (m := .lst []) tkD ⟨[], upd_same, rfl⟩, w0⟩, fun i m H2 ⟨em, acc, xs, G2, tk2, eD, rD, hG2, w2⟩ => ?_⟩
  by_cases hi : i < ds.length
  · refine .inr ⟨jo.go i H2 _ tk2 hG2 (stay i acc G2 w2) hi, fun H' => ∃ m', m' < m ∧ i + 1 + m' = ds.length ∧ ∃ acc xs G2, Tk W.K H1 H' ∧ H' D = some (.lst xs) ∧ RelDs W.K H' acc xs ∧ AbsH W H' (gup G2 D (.lst acc)) ∧ Wd (i + 1) acc G2, fun H' z => z, fun x H3 hy => ?_⟩
    obtain ⟨tk3, hG3, r3⟩ := jo.yld i ds[i] H2 x H3 hy _ tk2 hG2 (stay i acc G2 w2) (List.getElem?_eq_getElem hi)
    have hS3 : AbsS W H3 (wipe σ vs) (wipeD σd vs) := (hS.mono ((tk1.trans tk2).trans tk3)).wipe vs
    obtain ⟨σ2, e2, h2⟩ := atPat_of (turn i ds[i] acc G2 (List.getElem?_eq_getElem hi) w2)
    refine pat_ok e2 r3 hS3 hv fun σ' hS' hw' => ⟨hw'.trans (wipe_wipe vs), ?_⟩
    refine ⟨σ2, _, _, hS', hG3, h2, fun b H4 G4 tk4 hG4 h4 => ?_⟩
    cases b with
    | true =>
      rw [if_pos rfl]
      refine ⟨σ2, G4, _, hS'.mono tk4, hG4, h4, fun y H5 e G5 tk5 hG5 r5 ⟨a1, a2, G6, s6, w6⟩ => ?_⟩
      obtain ⟨ys, ey, ry⟩ := hG5 D _ a1
      have tku : Tk W.K H5 (upd H5 D (.lst (ys ++ [y]))) := Tk.set ey trivial
      refine ⟨ys, ey, by rw [ry.length]; exact a2, m - 1, by omega, by omega, acc ++ [e], ys ++ [y], G6, (((tk2.trans tk3).trans tk4).trans tk5).trans tku, upd_same, ?_, ?_, w6⟩
      · exact RelDs.append (ry.mono tku) (RelDs.cons (r5.mono tku) RelDs.nil)
      · exact (hG5.upd (m := .lst (acc ++ [e])) tku ⟨_, upd_same, RelDs.append (ry.mono tku) (RelDs.cons (r5.mono tku) RelDs.nil)⟩).sub s6
    | false =>
      rw [if_neg Bool.false_ne_true]
      obtain ⟨G6, s6, w6⟩ : ∃ G5, Sub (gup G5 D (.lst acc)) G4 ∧ Wd (i + 1) acc G5 := h4
      have hG6 := hG4.sub s6
      obtain ⟨ys, ey, ry⟩ := hG6 D _ gup_same
      exact ⟨m - 1, by omega, by omega, acc, ys, G6, (tk2.trans tk3).trans tk4, ey, ry, hG6, w6⟩
  · have ei : i = ds.length := by omega
    subst ei
    exact .inl ⟨jo.stop H2 _ tk2 hG2 (stay _ acc G2 w2), hw _ H2 (.ref D) _ (tk1.trans tk2) hG2 rfl (done acc G2 w2)⟩
theorem qe_lc {elt tg iter : Expr} {ifs : List Expr} {scope : Scope} {own : List (Str × Nat)} {pos : Pos} {ti : TId} {p : Pat} {tt : TTd} {te : TD} (hc : X.calm = true) (hN : X.N.Nodup) (hi : QI X tg iter ti) (ok : BlkOk X.N X.env.scope scope own) (hv : ∀ i ∈ p.slots, i ∈ own.map (·.2))
    (hg : Blk X scope fun Y => PG Y tg (patV X.K p)) (ht : Blk X scope fun Y => QTs Y ifs tt) (he : Blk X scope fun Y => QE Y elt te) (hs : ∀ x, foldedSetIterable iter X.env x = pure x := by intro _; rfl) :
    QE X (.ListComp elt [⟨tg, iter, ifs, 0⟩] scope pos) (dLc ti p tt te (own.map (·.2))) :=
  PE.imp (pe_lc hc hN hi ok hg ht he hs) fun _ _ _ h => lift_lc hv h
theorem qs_setLc {i : Nat} {y : Str} {py : Pos} {elt tg iter : Expr} {ifs : List Expr} {scope : Scope} {own : List (Str × Nat)} {pos spos : Pos} {ti : TId} {p : Pat} {tt : TTd} {te : TD} (hc : X.calm = true) (hN : X.N.Nodup) (hy : X.N[i]? = some y) (hyl : X.env.scope.names.lookup y = some .local)
    (hsw : swapsWith (.ListComp elt [⟨tg, iter, ifs, 0⟩] scope pos) (some (.Name y py)) spos.line X.env = pure true) (hi : QI X tg iter ti) (ok : BlkOk X.N X.env.scope scope own) (hv : ∀ i ∈ p.slots, i ∈ own.map (·.2))
    (hg : Blk X scope fun Y => PG Y tg (patV X.K p)) (ht : Blk X scope fun Y => QTs Y ifs tt) (he : Blk X scope fun Y => QE Y elt te) (hs : ∀ x, foldedSetIterable iter X.env x = pure x := by intro _; rfl) :
    QS X (.Assign [.Name y py] (.ListComp elt [⟨tg, iter, ifs, 0⟩] scope pos) spos) (dAsg (dLc ti p tt te (own.map (·.2))) (dName i)) :=
  PS.imp (ps_setLc hc hN hy hyl hsw hi ok hg ht he hs) fun F σ H h => by
    obtain ⟨σd, G, E, hS, hG, h, l⟩ := h
    exact lift_lc hv ⟨σd, G, _, hS, hG, h, fun v H1 d G1 tk hG1 r h1 => l.nx _ H1 _ G1 tk ((hS.mono tk).set r) hG1 h1⟩
/-! ### dict comprehensions: keys that are ints or texts -/
def isK (d : D) : Option Key := match d with
  | .int i => some (.inl i)
  | .str x => some (.inr x)
  | _ => none
theorem isK_of {K : PySem.W.Frag} {H : Hp} {d : D} {v : V} {k : Key} (h : isK d = some k) (r : RelD K H d v) : d = kD k ∧ v = kV k := by
  cases d with
  | int i => cases h; exact ⟨rfl, r⟩
  | str x => cases h; exact ⟨rfl, r⟩
  | _ => cases h
theorem keyOf_kD : ∀ k : Key, keyOf (kD k) = some (match k with | .inl i => .num i | .inr x => .text x)
  | .inl i => rfl
  | .inr x => rfl
theorem keyEq_kD (a b : Key) : keyEq (kD a) (kD b) = decide (a = b) := by
  unfold keyEq
  rw [keyOf_kD, keyOf_kD]
  cases a <;> cases b <;> simp
abbrev KRel (W : Wd) (H : Hp) : (D × D) → (Key × V) → Prop := fun p q => p.1 = kD q.1 ∧ RelD W.K H p.2 q.2
theorem krel_put {W : Wd} {H : Hp} {k : Key} {d : D} {v : V} (r : RelD W.K H d v) {kvs : List (D × D)} {xs : List (Key × V)} (h : Paired (KRel W H) kvs xs) : Paired (KRel W H) (dput kvs (kD k) d) (putK xs k v) := by
  have any : kvs.any (fun p => keyEq p.1 (kD k)) = xs.any fun kv => decide (kv.1 = k) := by
    induction h with
    | nil => rfl
    | cons a t ih => rw [List.any_cons, List.any_cons, ih, a.1, keyEq_kD]
  unfold dput putK
  rw [any]
  cases xs.any fun kv => decide (kv.1 = k) with
  | true =>
    simp only [if_true]
    clear any
    induction h with
    | nil => exact .nil
    | cons a t ih =>
      refine .cons ?_ ih
      rename_i p q ps qs
      dsimp only
      rw [a.1, keyEq_kD]
      by_cases e : q.1 = k
      · simp only [e, decide_true, if_true]
        exact ⟨rfl, r⟩
      · simp only [e, decide_false, if_false, Bool.false_eq_true]
        exact a
  | false =>
    simp only [if_false, Bool.false_eq_true]
    clear any
    induction h with
    | nil => exact .cons ⟨rfl, r⟩ .nil
    | cons a t ih => exact .cons a ih
theorem krel_get {W : Wd} {H : Hp} {k : Key} {kvs : List (D × D)} {xs : List (Key × V)} (h : Paired (KRel W H) kvs xs) : (dget kvs (kD k) = none ∧ valV xs k = none) ∨ ∃ d v, dget kvs (kD k) = some d ∧ valV xs k = some v ∧ RelD W.K H d v := by
  unfold dget valV
  induction h with
  | nil => exact .inl ⟨rfl, rfl⟩
  | cons a t ih =>
    rename_i p q ps qs
    rw [List.find?_cons, List.find?_cons, a.1, keyEq_kD]
    by_cases e : q.1 = k
    · simp only [e, decide_true]
      exact .inr ⟨p.2, q.2, rfl, rfl, a.2⟩
    · simp only [e, decide_false]
      exact ih
theorem krel_len {W : Wd} {H : Hp} {kvs : List (D × D)} {xs : List (Key × V)} (h : Paired (KRel W H) kvs xs) : xs.length = kvs.length := (Paired.length h).symm
theorem dput_len (kvs : List (D × D)) (k v : D) : (dput kvs k v).length ≤ kvs.length + 1 := by
  unfold dput
  split
  · simp
  · simp
/-- a dict whose keys are ints and texts, from a data heap -/
def KeysK (kvs : List (D × D)) : Prop := ∀ p ∈ kvs, ∃ k, p.1 = kD k
theorem DicK.keys {W : Wd} {H : Hp} {l : Bool} {a : Addr} {kvs : List (D × D)} (h : DicK W H l a kvs) : KeysK kvs := by
  obtain ⟨xs, e, r⟩ := h
  clear e
  induction r with
  | nil => intro p hp; cases hp
  | cons a t ih =>
    intro p hp
    rcases List.mem_cons.mp hp with rfl | hp
    · exact ⟨_, a.1⟩
    · exact ih p hp
theorem dicK_of {W : Wd} {H : Hp} {l : Bool} {a : Addr} {kvs : List (D × D)} (h : Dic W H l a kvs) (k : KeysK kvs) : DicK W H l a kvs := by
  rcases h with h | ⟨xs, h⟩
  · exact h
  · have ne := h.ne
    have r := h.rel
    cases kvs with
    | nil => exact (ne rfl).elim
    | cons p ps =>
      cases r with
      | cons z t =>
        obtain ⟨⟨ds, e⟩, _⟩ := z
        obtain ⟨kk, e2⟩ := k p List.mem_cons_self
        rw [e] at e2
        cases kk <;> cases e2
theorem keysK_put {kvs : List (D × D)} {k : Key} {d : D} (h : KeysK kvs) : KeysK (dput kvs (kD k) d) := by
  intro p hp
  unfold dput at hp
  split at hp
  · obtain ⟨q, hq, rfl⟩ := List.mem_map.mp hp
    obtain ⟨kk, e⟩ := h q hq
    by_cases z : keyEq q.1 (kD k) = true
    · exact ⟨kk, by rw [if_pos z]; exact e⟩
    · exact ⟨kk, by rw [if_neg z]; exact e⟩
  · rcases List.mem_append.mp hp with hp | hp
    · exact h p hp
    · have : p = (kD k, d) := by simpa using hp
      exact ⟨k, by rw [this]⟩
/-- {k: v for target in iter if ..} -/
def dDc (ti : TId) (p : Pat) (tt : TTd) (tk tv : TD) (vs : List Nat) : TD := fun σ G q => ti σ G fun ds st G1 => ∀ a, G1 a = none → ∃ W : Nat → List (D × D) → Gp → Prop, W 0 [] G1 ∧ (∀ i acc G, W i acc G → st (gup G a (.dic acc))) ∧
  (∀ i d acc G, ds[i]? = some d → W i acc G → atPat p d (wipeD σ vs) fun σ2 => tt σ2 (gup G a (.dic acc)) fun b G3 =>
    if b = true then tk σ2 G3 fun k G4 => tv σ2 G4 fun e G5 => (∃ kk, isK k = some kk) ∧ G5 a = some (.dic acc) ∧ KeysK acc ∧ acc.length < sizeLine ∧ ∃ G6, Sub (gup G6 a (.dic (dput acc k e))) (gup G5 a (.dic (dput acc k e))) ∧ W (i + 1) (dput acc k e) G6
    else ∃ G5, Sub (gup G5 a (.dic acc)) G3 ∧ W (i + 1) acc G5) ∧ ∀ acc G, W ds.length acc G → q (.ref a) (gup G a (.dic acc))
theorem lift_dc {W : Wd} {ti : TId} {p : Pat} {tt : TTd} {tk tv : TD} {vs : List Nat} (hv : ∀ i ∈ p.slots, i ∈ vs) {σ : L2.St} {H : Hp} {Q : VK} (h : lift W (dDc ti p tt tk tv vs) σ H Q) : tDc (liftI W ti) (patV W.K p) (liftT W tt) (lift W tk) (lift W tv) vs σ H Q := by
  obtain ⟨σd, G, q, hS, hG, h, hw⟩ := h
  refine ⟨σd, G, _, hS, hG, h, fun J H1 ds sta G1 tk1 hG1 jo h1 D hD => ?_⟩
  obtain ⟨Wd, w0, stay, turn, done⟩ := h1 D (hG1.none hD)
  have tkD : Tk W.K H1 (upd H1 D (.dK [])) := Tk.new hD
  refine ⟨fun i m H2 => i + m = ds.length ∧ ∃ acc G2, Tk W.K H1 H2 ∧ AbsH W H2 (gup G2 D (.dic acc)) ∧ Wd i acc G2,
    ⟨ds.length, by omega, [], G1, tkD, hG1.upd (m := .dic []) tkD (.inl ⟨[], upd_same, .nil⟩), w0⟩, fun i m H2 ⟨em, acc, G2, tk2, hG2, w2⟩ => ?_⟩
  by_cases hi : i < ds.length
  · refine .inr ⟨jo.go i H2 _ tk2 hG2 (stay i acc G2 w2) hi, fun H' => ∃ m', m' < m ∧ i + 1 + m' = ds.length ∧ ∃ acc G2, Tk W.K H1 H' ∧ AbsH W H' (gup G2 D (.dic acc)) ∧ Wd (i + 1) acc G2, fun H' z => z, fun x H3 hy => ?_⟩
    obtain ⟨tk3, hG3, r3⟩ := jo.yld i ds[i] H2 x H3 hy _ tk2 hG2 (stay i acc G2 w2) (List.getElem?_eq_getElem hi)
    have hS3 : AbsS W H3 (wipe σ vs) (wipeD σd vs) := (hS.mono ((tk1.trans tk2).trans tk3)).wipe vs
    obtain ⟨σ2, e2, h2⟩ := atPat_of (turn i ds[i] acc G2 (List.getElem?_eq_getElem hi) w2)
    refine pat_ok e2 r3 hS3 hv fun σ' hS' hw' => ⟨hw'.trans (wipe_wipe vs), ?_⟩
    refine ⟨σ2, _, _, hS', hG3, h2, fun b H4 G4 tk4 hG4 h4 => ?_⟩
    cases b with
    | true =>
      rw [if_pos rfl]
      refine ⟨σ2, G4, _, hS'.mono tk4, hG4, h4, fun y H5 k G5 tk5 hG5 r5 h5 => ?_⟩
      refine ⟨σ2, G5, _, (hS'.mono tk4).mono tk5, hG5, h5, fun z H6 e G6 tk6 hG6 r6 ⟨⟨kk, ek⟩, a1, ak, a2, G7, s7, w7⟩ => ?_⟩
      obtain ⟨rfl, rfl⟩ := isK_of ek r5
      obtain ⟨ys, ey, ry⟩ := dicK_of (hG6 D _ a1) ak
      have tku : Tk W.K H6 (upd H6 D (.dK (putK ys kk z))) := Tk.set ey trivial
      have rn : Paired (KRel W (upd H6 D (.dK (putK ys kk z)))) (dput acc (kD kk) e) (putK ys kk z) := krel_put (r6.mono tku) (Paired.mapP ry fun _ _ q => ⟨q.1, q.2.mono tku⟩)
      refine ⟨ys, kk, rfl, ey, by rw [krel_len ry]; exact a2, m - 1, by omega, by omega, dput acc (kD kk) e, G7, ((((tk2.trans tk3).trans tk4).trans tk5).trans tk6).trans tku, ?_, w7⟩
      exact (hG6.upd (m := .dic (dput acc (kD kk) e)) tku (.inl ⟨_, upd_same, rn⟩)).sub s7
    | false =>
      rw [if_neg Bool.false_ne_true]
      obtain ⟨G6, s6, w6⟩ : ∃ G5, Sub (gup G5 D (.dic acc)) G4 ∧ Wd (i + 1) acc G5 := h4
      exact ⟨m - 1, by omega, by omega, acc, G6, (tk2.trans tk3).trans tk4, hG4.sub s6, w6⟩
  · have ei : i = ds.length := by omega
    subst ei
    exact .inl ⟨jo.stop H2 _ tk2 hG2 (stay _ acc G2 w2), hw _ H2 (.ref D) _ (tk1.trans tk2) hG2 rfl (done acc G2 w2)⟩
theorem qe_dc {kx vx tg iter : Expr} {ifs : List Expr} {scope : Scope} {own : List (Str × Nat)} {pos : Pos} {ti : TId} {p : Pat} {tt : TTd} {tk tv : TD} (hc : X.calm = true) (hN : X.N.Nodup) (hi : QI X tg iter ti) (ok : BlkOk X.N X.env.scope scope own) (hv : ∀ i ∈ p.slots, i ∈ own.map (·.2))
    (hg : Blk X scope fun Y => PG Y tg (patV X.K p)) (ht : Blk X scope fun Y => QTs Y ifs tt) (hk : Blk X scope fun Y => QE Y kx tk) (he : Blk X scope fun Y => QE Y vx tv) (hs : ∀ x, foldedSetIterable iter X.env x = pure x := by intro _; rfl) :
    QE X (.DictComp kx vx [⟨tg, iter, ifs, 0⟩] scope pos) (dDc ti p tt tk tv (own.map (·.2))) :=
  PE.imp (pe_dc hc hN hi ok hg ht hk he hs) fun _ _ _ h => lift_dc hv h
end
end DL
/-! DL5: dicts over data: get, in, store, setdefault. -/
namespace DL
open PySem PySem.Spec PyProof.Rows L2
section
variable {X : Cx} {pins : List (Addr × Obj)} {σ : L2.St} {H : Hp} {s : Shared}
mutual
theorem nestedIs (I : Inv X pins σ H s) : ∀ {d : D} {v : V} {u : Value} {k : NestedKey}, RelD X.K H d v → RelV v u → keyOf d = some k → NestedIs s.heap k u
  | .non, v, u, k, r, ru, e => by
    obtain rfl : v = .non := r
    cases ru
    cases e
    exact .none
  | .bl b, v, u, k, r, ru, e => by
    obtain rfl : v = .bl b := r
    cases ru
    cases e
    exact .bool rfl
  | .int i, v, u, k, r, ru, e => by
    obtain rfl : v = .int i := r
    obtain ⟨t, rfl⟩ := ru
    cases e
    exact .int _ _
  | .str x, v, u, k, r, ru, e => by
    obtain rfl : v = .str x := r
    obtain ⟨t, rfl⟩ := ru
    cases e
    exact .text _ _
  | .ref a, v, u, k, r, ru, e => by cases e
  | .tup ds, v, u, k, r, ru, e => by
    obtain ⟨a, xs, rfl, hq, rr⟩ := r
    cases ru
    obtain ⟨ks, ek, rfl⟩ := Option.map_eq_some_iff.mp (show (keysOf ds).map NestedKey.tup = some k from e)
    obtain ⟨its, rv, ⟨o, ho, hc, n, hd⟩, hz⟩ := I.tuple hq
    exact .tup ho hc hd (by simpa using nestedAll I rr rv ek)
theorem nestedAll (I : Inv X pins σ H s) : ∀ {ds : List D} {xs : List V} {us : List Value} {ks : List NestedKey}, RelDs X.K H ds xs → Vals xs us → keysOf ds = some ks → NestedAll s.heap ks us
  | [], xs, us, ks, r, rv, e => by
    obtain rfl : xs = [] := r
    cases rv
    cases e
    exact .nil
  | d :: ds, xs, us, ks, r, rv, e => by
    obtain ⟨x, xr, rfl, r1, r2⟩ := r
    cases rv with
    | cons rv1 rv2 =>
      have e' : (match keyOf d, keysOf ds with | some k, some ks => some (k :: ks) | _, _ => none) = some ks := e
      cases e1 : keyOf d with
      | none => rw [e1] at e'; cases e'
      | some k =>
        cases e2 : keysOf ds with
        | none => rw [e1, e2] at e'; cases e'
        | some kr =>
          rw [e1, e2] at e'
          cases e'
          exact .cons (nestedIs I r1 rv1 e1) (nestedAll I r2 rv2 e2)
end
/-- a tuple that is a key, in the heap -/
theorem tupKey (I : Inv X pins σ H s) {ds : List D} {b : Addr} {k : NestedKey} (r : RelD X.K H (.tup ds) (.ref b)) (e : keyOf (.tup ds) = some k) (hd : k.depth ≤ 8) : (nestedKind X.prog X.w).is s.heap k b :=
  ⟨nestedIs I r (show RelV (.ref b) (.ref b) from rfl) e, hd⟩
theorem dicT_heap (I : Inv X pins σ H s) {a : Addr} {kvs : List (D × D)} {xs : List (NestedKey × Addr × Value)} {l : Bool} (h : DicT (wd X) H l a kvs xs) : s.heap.DictOfH (nestedKind X.prog X.w) a xs := by
  obtain ⟨o, es, ep, ho, hc, hd, he⟩ : OwnD (wd X) a xs s.heap := (h.at_.rd.ok I.hok).1
  refine ⟨o, es, ep, ho, hc, hd, he, ?_, h.nod⟩
  have r := h.rel
  clear h he
  induction r with
  | nil => intro x hx; cases hx
  | cons z t ih =>
    intro x hx
    rcases List.mem_cons.mp hx with rfl | hx
    · obtain ⟨⟨ds, e1⟩, e2, e3, e4, _⟩ := z
      rw [e1] at e2 e4
      exact tupKey I e4 e2 e3
    · exact ih x hx
theorem dic_nil (I : Inv X pins σ H s) {a : Addr} (h : Rd H a (.dK [])) : s.heap.DictOfH (nestedKind X.prog X.w) a [] := by
  obtain ⟨_, _, vs, r, o, es, ep, ho, hc, hd, _, hp, _⟩ := dk_rd I.hok h
  have e1 : vs = [] := by
    cases r
    rfl
  subst e1
  have e2 : es.toList = [] := by
    cases hp2 : es.toList with
    | nil => rfl
    | cons x xs =>
      rw [hp2] at hp
      cases hp
  exact ⟨o, es, ep, ho, hc, hd, e2, (fun _ hx => nomatch hx), List.nodup_nil⟩
end
section
variable {W : Wd} {H : Hp}
abbrev TRel (W : Wd) (H : Hp) : (D × D) → (NestedKey × Addr × Value) → Prop := fun p q => (∃ ds, p.1 = .tup ds) ∧ keyOf p.1 = some q.1 ∧ q.1.depth ≤ 8 ∧ RelD W.K H p.1 (.ref q.2.1) ∧ ∃ v, RelV v q.2.2 ∧ RelD W.K H p.2 v
theorem TRel.mono {H' : Hp} (t : Tk W.K H H') {p : D × D} {q : NestedKey × Addr × Value} (z : TRel W H p q) : TRel W H' p q := ⟨z.1, z.2.1, z.2.2.1, z.2.2.2.1.mono t, let ⟨v, r1, r2⟩ := z.2.2.2.2; ⟨v, r1, r2.mono t⟩⟩
theorem keyEq_of {a b : D} {k l : NestedKey} (ha : keyOf a = some k) (hb : keyOf b = some l) : keyEq a b = decide (k = l) := by
  unfold keyEq
  rw [ha, hb]
  by_cases e : k = l
  · subst e; simp
  · simp [e]
theorem trel_get {kvs : List (D × D)} {xs : List (NestedKey × Addr × Value)} {e : D} {k : NestedKey} (h : Paired (TRel W H) kvs xs) (hk : keyOf e = some k) :
    (dget kvs e = none ∧ atKey xs k = none) ∨ ∃ d b u, dget kvs e = some d ∧ atKey xs k = some (b, u) ∧ ∃ v, RelV v u ∧ RelD W.K H d v := by
  unfold dget atKey
  induction h with
  | nil => exact .inl ⟨rfl, rfl⟩
  | cons a t ih =>
    rename_i p q ps qs
    rw [List.find?_cons, List.find?_cons, keyEq_of a.2.1 hk]
    by_cases z : q.1 = k
    · simp only [z, decide_true]
      exact .inr ⟨p.2, q.2.1, q.2.2, rfl, rfl, a.2.2.2.2⟩
    · simp only [z, decide_false]
      exact ih
theorem trel_any {kvs : List (D × D)} {xs : List (NestedKey × Addr × Value)} {e : D} {k : NestedKey} (h : Paired (TRel W H) kvs xs) (hk : keyOf e = some k) : kvs.any (fun p => keyEq p.1 e) = (atKey xs k).isSome := by
  unfold atKey
  rw [Option.isSome_map]
  induction h with
  | nil => rfl
  | cons a t ih =>
    rename_i p q ps qs
    rw [List.any_cons, List.find?_cons, keyEq_of a.2.1 hk, ih]
    by_cases z : q.1 = k
    · simp [z]
    · simp [z]
theorem trel_put {kvs : List (D × D)} {xs : List (NestedKey × Addr × Value)} {ds : List D} {d : D} {k : NestedKey} {b : Addr} {u : Value} {v : V} (h : Paired (TRel W H) kvs xs) (hk : keyOf (.tup ds) = some k) (hd : k.depth ≤ 8) (rb : RelD W.K H (.tup ds) (.ref b)) (ru : RelV v u) (rv : RelD W.K H d v) :
    Paired (TRel W H) (dput kvs (.tup ds) d) (storedH xs k b u) := by
  have any := trel_any h hk
  unfold dput storedH
  rw [any]
  cases (atKey xs k).isSome with
  | true =>
    simp only [if_true]
    clear any
    induction h with
    | nil => exact .nil
    | cons a t ih =>
      refine .cons ?_ ih
      rename_i p q ps qs
      dsimp only [putAt]
      rw [keyEq_of a.2.1 hk]
      by_cases e : q.1 = k
      · simp only [e, decide_true, if_true]
        exact ⟨a.1, by rw [← e]; exact a.2.1, hd, a.2.2.2.1, v, ru, rv⟩
      · simp only [e, decide_false, if_false, Bool.false_eq_true]
        exact a
  | false =>
    simp only [if_false, Bool.false_eq_true]
    clear any
    induction h with
    | nil => exact .cons ⟨⟨ds, rfl⟩, hk, hd, rb, v, ru, rv⟩ .nil
    | cons a t ih => exact .cons a ih
theorem storedH_nodup {xs : List (NestedKey × Addr × Value)} {P : Program} {w : World} {h : Heap} {a : Addr} (x : h.DictOfH (nestedKind P w) a xs) : (xs.map (·.1)).Nodup := let ⟨_, _, _, _, _, _, _, _, n⟩ := x; n
end
/-- a key that a dict here can hold -/
def okKey (d : D) : Bool := match d with
  | .int _ => true
  | .str _ => true
  | .tup ds => match keyOf (.tup ds) with
    | some k => decide (k.depth ≤ 8)
    | none => false
  | _ => false
theorem okKey_of {d : D} (h : okKey d = true) : (∃ k, isK d = some k ∧ d = kD k) ∨ ∃ ds k, d = .tup ds ∧ keyOf (.tup ds) = some k ∧ k.depth ≤ 8 := by
  cases d with
  | int i => exact .inl ⟨.inl i, rfl, rfl⟩
  | str x => exact .inl ⟨.inr x, rfl, rfl⟩
  | tup ds =>
    unfold okKey at h
    dsimp only at h
    split at h
    · rename_i k e
      exact .inr ⟨ds, k, rfl, e, of_decide_eq_true h⟩
    · cases h
  | _ => cases h
/-- the key fits the dict's other keys -/
def fits (kvs : List (D × D)) (d : D) : Bool := okKey d && kvs.all fun p => match p.1, d with
  | .tup _, .tup _ => true
  | .tup _, _ => false
  | _, .tup _ => false
  | _, _ => true
section
variable {X : Cx} {pins : List (Addr × Obj)} {σ : L2.St} {H : Hp} {s : Shared} {G : Gp} {a : Addr} {kvs : List (D × D)} {k d : D} {y : V} {u r : Value} {A : Around} {E : Value → Shared → Prop}
/-- how a dict with a key that fits stands: ints and texts, or tuples -/
theorem dic_case {l : Bool} (h : Dic (wd X) H l a kvs) (f : fits kvs k = true) :
    (∃ kk xs, k = kD kk ∧ AtM H a l (.dK xs) ∧ Paired (KRel (wd X) H) kvs xs) ∨ ∃ ds nk, k = .tup ds ∧ keyOf k = some nk ∧ nk.depth ≤ 8 ∧ ((kvs = [] ∧ AtM H a l (.dK [])) ∨ ∃ xs, DicT (wd X) H l a kvs xs) := by
  unfold fits at f
  rw [Bool.and_eq_true] at f
  obtain ⟨f1, f2⟩ := f
  rcases okKey_of f1 with ⟨kk, e1, e2⟩ | ⟨ds, nk, e1, e2, e3⟩
  · subst e2
    rcases h with ⟨xs, e, r⟩ | ⟨xs, h⟩
    · exact .inl ⟨kk, xs, rfl, e, r⟩
    · have ne := h.ne
      have r := h.rel
      cases kvs with
      | nil => exact (ne rfl).elim
      | cons p ps =>
        cases r with
        | cons z t =>
          obtain ⟨⟨es, e⟩, _⟩ := z
          have := List.all_eq_true.mp f2 p List.mem_cons_self
          rw [e] at this
          cases kk <;> cases this
  · subst e1
    refine .inr ⟨ds, nk, rfl, e2, e3, ?_⟩
    rcases h with ⟨xs, e, r⟩ | ⟨xs, h⟩
    · cases r with
      | nil => exact .inl ⟨rfl, e⟩
      | cons z t =>
        rename_i p q ps qs
        have := List.all_eq_true.mp f2 p List.mem_cons_self
        rw [z.1] at this
        cases hq : q.1 with
        | inl i => rw [hq] at this; cases this
        | inr x => rw [hq] at this; cases this
    · exact .inr ⟨xs, h⟩
theorem dic_in {l : Bool} (hu : A.units + 64 < cLine) (I : Inv X pins σ H s) (h : Dic (wd X) H l a kvs) (f : fits kvs k = true) (rk : RelD X.K H k y) (ry : RelV y u) {Q : Value → Shared → Prop} (q : ∀ s', Inv X pins σ H s' → Q (.bool (dget kvs k).isSome) s') :
    wpAny (model X.prog X.w) A (compareOp .In u (.ref a)) Q E s := by
  have hu1 : A.units + 1 < cLine := by omega
  rcases dic_case h f with ⟨kk, xs, rfl, e, r⟩ | ⟨ds, nk, rfl, ek, ed, hh⟩
  · obtain ⟨_, rfl⟩ := isK_of (k := kk) (d := kD kk) (by cases kk <;> rfl) rk
    refine d_in (y := kV kk) (o := valV xs kk) hu1 I (.inl ⟨xs, kk, e.rd, rfl, rfl⟩) ry fun s' I' => ?_
    have e2 : (valV xs kk).isSome = (dget kvs (kD kk)).isSome := by
      rcases krel_get (k := kk) r with ⟨e1, e2⟩ | ⟨d, v, e1, e2, _⟩ <;> rw [e1, e2] <;> rfl
    rw [e2]
    exact q s' I'
  · obtain ⟨b, xs, rfl, hq, rr⟩ := rk
    cases ry
    have hr : (nestedKind X.prog X.w).room A.in1 := by
      show A.units + 1 + 8 < cLine
      omega
    have hk : (nestedKind X.prog X.w).is s.heap nk b := tupKey I ⟨b, xs, rfl, hq, rr⟩ ek ed
    rcases hh with ⟨rfl, e⟩ | ⟨zs, e⟩
    · refine wpAny_in_heap hr hk ?_ (dic_nil I e.rd) (q _ (I.tok _))
      exact (dk_rd I.hok e.rd).2.1
    · refine wpAny_in_heap hr hk e.sys (dicT_heap I e) ?_
      have e2 : (atKey zs nk).isSome = (dget kvs (.tup ds)).isSome := by
        rcases trel_get e.rel ek with ⟨e1, e2⟩ | ⟨d, b', u', e1, e2, _⟩ <;> rw [e1, e2] <;> rfl
      rw [e2]
      exact q _ (I.tok _)
theorem dic_notIn {l : Bool} (hu : A.units + 64 < cLine) (I : Inv X pins σ H s) (h : Dic (wd X) H l a kvs) (f : fits kvs k = true) (rk : RelD X.K H k y) (ry : RelV y u) {Q : Value → Shared → Prop} (q : ∀ s', Inv X pins σ H s' → Q (.bool (!(dget kvs k).isSome)) s') :
    wpAny (model X.prog X.w) A (compareOp .NotIn u (.ref a)) Q E s := by
  have hu1 : A.units + 1 < cLine := by omega
  rcases dic_case h f with ⟨kk, xs, rfl, e, r⟩ | ⟨ds, nk, rfl, ek, ed, hh⟩
  · obtain ⟨_, rfl⟩ := isK_of (k := kk) (d := kD kk) (by cases kk <;> rfl) rk
    refine d_notIn (y := kV kk) (o := valV xs kk) hu1 I (.inl ⟨xs, kk, e.rd, rfl, rfl⟩) ry fun s' I' => ?_
    have e2 : (valV xs kk).isSome = (dget kvs (kD kk)).isSome := by
      rcases krel_get (k := kk) r with ⟨e1, e2⟩ | ⟨d, v, e1, e2, _⟩ <;> rw [e1, e2] <;> rfl
    rw [e2]
    exact q s' I'
  · obtain ⟨b, xs, rfl, hq, rr⟩ := rk
    cases ry
    have hr : (nestedKind X.prog X.w).room A.in1 := by
      show A.units + 1 + 8 < cLine
      omega
    have hk : (nestedKind X.prog X.w).is s.heap nk b := tupKey I ⟨b, xs, rfl, hq, rr⟩ ek ed
    rcases hh with ⟨rfl, e⟩ | ⟨zs, e⟩
    · refine wpAny_notIn_heap hr hk ?_ (dic_nil I e.rd) (q _ (I.tok _))
      exact (dk_rd I.hok e.rd).2.1
    · refine wpAny_notIn_heap hr hk e.sys (dicT_heap I e) ?_
      have e2 : (atKey zs nk).isSome = (dget kvs (.tup ds)).isSome := by
        rcases trel_get e.rel ek with ⟨e1, e2⟩ | ⟨d, b', u', e1, e2, _⟩ <;> rw [e1, e2] <;> rfl
      rw [e2]
      exact q _ (I.tok _)
theorem dic_getItem {l : Bool} (hu : A.units + 64 < cLine) (I : Inv X pins σ H s) (h : Dic (wd X) H l a kvs) (f : fits kvs k = true) (hd : dget kvs k = some d) (rk : RelD X.K H k y) (ry : RelV y u) {Q : Value → Shared → Prop} (q : ∀ v w' s', Inv X pins σ H s' → RelV v w' → RelD X.K H d v → Q w' s') :
    wpAny (model X.prog X.w) A (getItem (.ref a) u) Q E s := by
  have hu1 : A.units + 1 < cLine := by omega
  rcases dic_case h f with ⟨kk, xs, rfl, e, r⟩ | ⟨ds, nk, rfl, ek, ed, hh⟩
  · obtain ⟨_, rfl⟩ := isK_of (k := kk) (d := kD kk) (by cases kk <;> rfl) rk
    rcases krel_get (k := kk) r with ⟨e1, e2⟩ | ⟨d', v, e1, e2, rv⟩
    · rw [hd] at e1; cases e1
    · rw [hd] at e1
      cases e1
      refine d_getItem (y := kV kk) (v := v) hu1 I (.inl ⟨xs, kk, e.rd, rfl, e2.symm⟩) ry fun w' s' I' rw' => q v w' s' I' rw' rv
  · obtain ⟨b, xs, rfl, hq, rr⟩ := rk
    cases ry
    have hr : (nestedKind X.prog X.w).room A.in1 := by
      show A.units + 1 + 8 < cLine
      omega
    have hk : (nestedKind X.prog X.w).is s.heap nk b := tupKey I ⟨b, xs, rfl, hq, rr⟩ ek ed
    rcases hh with ⟨rfl, e⟩ | ⟨zs, e⟩
    · cases hd
    · rcases trel_get e.rel ek with ⟨e1, e2⟩ | ⟨d', b', u', e1, e2, v, ru, rv⟩
      · rw [hd] at e1; cases e1
      · rw [hd] at e1
        cases e1
        exact wpAny_getItem_heap hr hk (dicT_heap I e) e2 (q v u' _ (I.tok _) ru rv)
/-- behind a store of a tuple key -/
theorem dicT_write (I : Inv X pins σ H s) {xs : List (NestedKey × Addr × Value)} {ds : List D} {nk : NestedKey} {b : Addr} {v : V} {h' : Heap} {t' : Nat} (m : Mut (H a)) (rel : Paired (TRel (wd X) H) kvs xs) (len : kvs.length < sizeLine) (sys : (a == sysModules) = false)
    (ek : keyOf (.tup ds) = some nk) (ed : nk.depth ≤ 8) (rb : RelD X.K H (.tup ds) (.ref b)) (rr : RelV v r) (rv : RelD X.K H d v) (hm : h'.DictOfH (nestedKind X.prog X.w) a (storedH xs nk b r)) (hs : Heap.SameBut a s.heap h') :
    ∃ H', Inv X pins σ H' { s with heap := h', toks := t' } ∧ Tk X.K H H' ∧ H' = upd H a (.ext (OwnD (wd X) a (storedH xs nk b r))) ∧ AbsMO (wd X) H' a (.dic (dput kvs (.tup ds) d)) := by
  have tk : Tk X.K H (upd H a (.ext (OwnD (wd X) a (storedH xs nk b r)))) := Tk.upd (.inr m)
  obtain ⟨o, es, ep, ho, hc, hdt, he, hks, hn⟩ := hm
  have new : ObjOk X.prog X.w (upd H a (.ext (OwnD (wd X) a (storedH xs nk b r)))) h' a (.ext (OwnD (wd X) a (storedH xs nk b r))) := by
    refine ⟨⟨o, es, ep, ho, hc, hdt, he⟩, ⟨o, ho⟩, fun h1 h2 p k => ?_⟩
    obtain ⟨o1, es1, ep1, ho1, r1⟩ := p
    exact ⟨o1, es1, ep1, k _ ho1, r1⟩
  refine ⟨_, d_write (t' := t') I m hs ⟨o, ho⟩ new, tk, rfl, .inr ⟨_, upd_same, ?_, hn, sys, ?_, ?_⟩⟩
  · exact Paired.mapP (trel_put rel ek ed rb rr rv) fun _ _ z => z.mono tk
  · have := dput_len kvs (.tup ds) d
    omega
  · unfold dput
    split
    · rename_i hany
      intro z
      have : kvs = [] := List.map_eq_nil_iff.mp z
      rw [this] at hany
      cases hany
    · simp
theorem dic_setItem (hu : A.units + 64 < cLine) (I : Inv X pins σ H s) (h : AbsMO (wd X) H a (.dic kvs)) (f : fits kvs k = true) (len : kvs.length < sizeLine) (rk : RelD X.K H k y) (ry : RelV y u) {v : V} (rr : RelV v r) (rv : RelD X.K H d v) {Q : Unit → Shared → Prop}
    (q : ∀ s' H', Inv X pins σ H' s' → Tk X.K H H' → (∃ o, H' = upd H a o) → AbsMO (wd X) H' a (.dic (dput kvs k d)) → Q () s') : wpAny (model X.prog X.w) A (setItem (.ref a) u r) Q E s := by
  have hu1 : A.units + 1 < cLine := by omega
  rcases dic_case h f with ⟨kk, xs, rfl, e, rel⟩ | ⟨ds, nk, rfl, ek, ed, hh⟩
  · obtain ⟨_, rfl⟩ := isK_of (k := kk) (d := kD kk) (by cases kk <;> rfl) rk
    have tk : Tk X.K H (upd H a (.dK (putK xs kk v))) := Tk.set e trivial
    refine d_setItem (y := kV kk) hu1 I (DPut.k e (by rw [krel_len rel]; exact len)) ry rr fun s' I' => q s' _ I' tk ⟨_, rfl⟩ (.inl ⟨_, upd_same, krel_put (rv.mono tk) (Paired.mapP rel fun _ _ z => ⟨z.1, z.2.mono tk⟩)⟩)
  · have rk0 := rk
    obtain ⟨b, xs, rfl, hq, rr'⟩ := rk
    cases ry
    have hr : (nestedKind X.prog X.w).room A.in1 := by
      show A.units + 1 + 8 < cLine
      omega
    have hk : (nestedKind X.prog X.w).is s.heap nk b := tupKey I rk0 ek ed
    rcases hh with ⟨rfl, e⟩ | ⟨zs, e⟩
    · refine wpAny_setItem_heap (xs := []) (hsz := Nat.zero_le _) hr hk (dic_nil I (.inl e)) fun h' hm hs => ?_
      obtain ⟨H', I', tk, eH, ab⟩ := dicT_write (t' := s.toks + (nestedKind X.prog X.w).draws nk) I (by rw [e]; exact trivial) .nil len (dk_of I.hok e).2.1 ek ed rk0 rr rv hm hs
      exact q _ H' I' tk ⟨_, eH⟩ ab
    · refine wpAny_setItem_heap (xs := zs) (hsz := by rw [← Paired.length e.rel]; exact Nat.le_of_lt len) hr hk (dicT_heap I e) fun h' hm hs => ?_
      obtain ⟨H', I', tk, eH, ab⟩ := dicT_write (t' := s.toks + (nestedKind X.prog X.w).draws nk) I (by rw [e.at_]; exact trivial) e.rel len e.sys ek ed rk0 rr rv hm hs
      exact q _ H' I' tk ⟨_, eH⟩ ab
theorem dic_setdefault (hu : A.units + 64 < cLine) (I : Inv X pins σ H s) (h : AbsMO (wd X) H a (.dic kvs)) (f : fits kvs k = true) (len : kvs.length < sizeLine) (rk : RelD X.K H k y) (ry : RelV y u) {v : V} (rr : RelV v r) (rv : RelD X.K H d v) {Q : Value → Shared → Prop}
    (q1 : ∀ e, dget kvs k = some e → ∀ z w' s', Inv X pins σ H s' → RelV z w' → RelD X.K H e z → Q w' s')
    (q2 : dget kvs k = none → ∀ s' H', Inv X pins σ H' s' → Tk X.K H H' → (∃ o, H' = upd H a o) → AbsMO (wd X) H' a (.dic (dput kvs k d)) → ∀ w', RelV v w' → Q w' s') : wpAny (model X.prog X.w) A (call (.builtin "dict.setdefault") [.ref a, u, r]) Q E s := by
  have hu1 : A.units + 1 < cLine := by omega
  rcases dic_case h f with ⟨kk, xs, rfl, e, rel⟩ | ⟨ds, nk, rfl, ek, ed, hh⟩
  · obtain ⟨_, rfl⟩ := isK_of (k := kk) (d := kD kk) (by cases kk <;> rfl) rk
    have tk : Tk X.K H (upd H a (.dK (putK xs kk v))) := Tk.set e trivial
    refine d_setd I e ry rr (by rw [krel_len rel]; exact len) (fun z hz w' s' I' rw' => ?_) (fun hz w' s' I' rw' => ?_)
    · rcases krel_get (k := kk) rel with ⟨e1, e2⟩ | ⟨d', v', e1, e2, rv'⟩
      · rw [hz] at e2; cases e2
      · rw [hz] at e2
        cases e2
        exact q1 d' e1 z w' s' I' rw' rv'
    · rcases krel_get (k := kk) rel with ⟨e1, e2⟩ | ⟨d', v', e1, e2, rv'⟩
      · exact q2 e1 s' _ I' tk ⟨_, rfl⟩ (.inl ⟨_, upd_same, krel_put (rv.mono tk) (Paired.mapP rel fun _ _ z => ⟨z.1, z.2.mono tk⟩)⟩) w' rw'
      · rw [hz] at e2; cases e2
  · have rk0 := rk
    obtain ⟨b, xs, rfl, hq, rr'⟩ := rk
    cases ry
    have hr : (nestedKind X.prog X.w).room A.in1 := by
      show A.units + 1 + 8 < cLine
      omega
    have hk : (nestedKind X.prog X.w).is s.heap nk b := tupKey I rk0 ek ed
    rcases hh with ⟨rfl, e⟩ | ⟨zs, e⟩
    · refine call_setdefault_heap (xs := []) (hsz := Nat.zero_le _) hr hk (dk_of I.hok e).2.1 (dic_nil I (.inl e)) (fun p hp => by cases hp) fun _ h' hm hs => ?_
      obtain ⟨H', I', tk, eH, ab⟩ := dicT_write (t' := s.toks + (nestedKind X.prog X.w).draws nk) I (by rw [e]; exact trivial) .nil len (dk_of I.hok e).2.1 ek ed rk0 rr rv hm hs
      exact q2 rfl _ H' I' tk ⟨_, eH⟩ ab _ rr
    · refine call_setdefault_heap (xs := zs) (hsz := by rw [← Paired.length e.rel]; exact Nat.le_of_lt len) hr hk e.sys (dicT_heap I e) (fun p hp => ?_) fun hp h' hm hs => ?_
      · rcases trel_get e.rel ek with ⟨e1, e2⟩ | ⟨d', b', u', e1, e2, z, ru, rz⟩
        · rw [hp] at e2; cases e2
        · rw [hp] at e2
          cases e2
          exact q1 d' e1 z u' _ (I.tok _) ru rz
      · rcases trel_get e.rel ek with ⟨e1, e2⟩ | ⟨d', b', u', e1, e2, z, ru, rz⟩
        · obtain ⟨H', I', tk, eH, ab⟩ := dicT_write (t' := s.toks + (nestedKind X.prog X.w).draws nk) I (by rw [e.at_]; exact trivial) e.rel len e.sys ek ed rk0 rr rv hm hs
          exact q2 e1 _ H' I' tk ⟨_, eH⟩ ab _ rr
        · rw [hp] at e2; cases e2
end
end DL
/-! DL6: items, in, stores, methods and calls of built-ins, calls of own defs, over data. -/
namespace DL
open PySem PySem.Spec PyProof.Rows L2
def optK {α : Type} (o : Option α) (k : α → Prop) : Prop := match o with
  | some v => k v
  | none => False
theorem optK_of {α : Type} {o : Option α} {k : α → Prop} (h : optK o k) : ∃ v, o = some v ∧ k v := by
  cases o with
  | some v => exact ⟨v, rfl, h⟩
  | none => exact h.elim
theorem atI_rel {K : PySem.W.Frag} {H : Hp} {ds : List D} {xs : List V} {i : Int} {d : D} (r : RelDs K H ds xs) (h : atI ds i = some d) : ∃ x, atI xs i = some x ∧ RelD K H d x := by
  unfold atI at h ⊢
  rw [r.length]
  cases e : ixN ds.length i with
  | none => rw [e] at h; cases h
  | some j =>
    rw [e] at h
    obtain ⟨x, h1, h2⟩ := r.get (i := j) h
    exact ⟨x, h1, h2⟩
/-- o[i] -/
def rIx : R2d := fun d e G q => match d with
  | .tup ds => isI e fun i => optK (atI ds i) fun v => q v G
  | .ref a => match G a with
    | some (.lst ds) => isI e fun i => optK (atI ds i) fun v => q v G
    | some (.rol ds) => isI e fun i => optK (atI ds i) fun v => q v G
    | some (.dic kvs) => fits kvs e = true ∧ optK (dget kvs e) fun v => q v G
    | some (.rdc kvs) => fits kvs e = true ∧ optK (dget kvs e) fun v => q v G
    | _ => False
  | .str z => isI e fun i => z.length ≤ sizeLine ∧ optK (atI z.cps.toList i) fun c => q (.str ⟨#[c]⟩) G
  | _ => False
section
variable {X : Cx}
theorem dic_typeIs {pins : List (Addr × Obj)} {σ : L2.St} {H : Hp} {s : Shared} {a : Addr} {kvs : List (D × D)} {l : Bool} (I : Inv X pins σ H s) (h : Dic (wd X) H l a kvs) : s.TypeIs (.ref a) "dict" ∧ ∃ o, s.heap.get? a = some o ∧ o.dict = none := by
  rcases h with ⟨xs, e, r⟩ | ⟨xs, h⟩
  · obtain ⟨_, _, vs, _, dd⟩ := dk_rd I.hok e.rd
    obtain ⟨o, _, _, ho, ex, _⟩ := id dd
    exact ⟨dd.typeIs, o, ho, ex.2.1⟩
  · obtain ⟨o, es, ep, ho, ex, _⟩ := dicT_heap I h
    exact ⟨⟨o, ho, ex.1⟩, o, ho, ex.2.1⟩
theorem ix_d (hu : X.A.units + 64 < cLine) : IxR X (lift2 (wd X) rIx) := by
  intro value slice pins s σ H x y v u Q I rx ry h hs
  obtain ⟨d, e, G, q, rd, re, hG, h, hw⟩ := h
  have lst : ∀ a ds, (∃ xs, SqL X.K H a xs ∧ RelDs X.K H ds xs) → d = .ref a → (isI e fun i => optK (atI ds i) fun v => q v G) → wpAny (model X.prog X.w) X.A (subscriptTail value slice v u) (EP X pins σ Q) X.xe s := by
    intro a ds hx ed g
    subst ed
    obtain ⟨xs, hq, rr⟩ := hx
    obtain rfl : x = .ref a := rd
    obtain ⟨i, rfl, rfl, g2⟩ := isI_of g re
    obtain ⟨z, ez, g3⟩ := optK_of g2
    obtain ⟨w, ew, rw'⟩ := atI_rel rr ez
    exact ix_list value slice pins s σ H _ _ v u Q I rx ry ⟨a, xs, i, w, rfl, rfl, hq, ew, hw w H z G Tk.refl hG rw' g3⟩ hs
  cases d with
  | tup ds =>
    obtain ⟨a, xs, rfl, hq, rr⟩ := rd
    obtain ⟨i, rfl, rfl, h⟩ := isI_of h re
    obtain ⟨z, ez, h⟩ := optK_of h
    obtain ⟨w, ew, rw'⟩ := atI_rel rr ez
    exact ix_tup value slice pins s σ H _ _ v u Q I rx ry ⟨a, xs, i, w, rfl, rfl, hq, ew, hw w H z G Tk.refl hG rw' h⟩ hs
  | ref a =>
    have h : (match G a with
      | some (.lst ds) => isI e fun i => optK (atI ds i) fun v => q v G
      | some (.rol ds) => isI e fun i => optK (atI ds i) fun v => q v G
      | some (.dic kvs) => fits kvs e = true ∧ optK (dget kvs e) fun v => q v G
      | some (.rdc kvs) => fits kvs e = true ∧ optK (dget kvs e) fun v => q v G
      | _ => False) := h
    cases eG : G a with
    | none => rw [eG] at h; exact h.elim
    | some m =>
      rw [eG] at h
      have hm := hG a m eG
      cases m with
      | lst ds =>
        obtain ⟨xs, e1, rr⟩ := hm
        exact lst a ds ⟨xs, SqL.of e1, rr⟩ rfl h
      | rol ds =>
        obtain ⟨xs, e1, rr⟩ := hm
        exact lst a ds ⟨xs, .inl e1, rr⟩ rfl h
      | dic kvs =>
        obtain ⟨f, h⟩ := h
        obtain ⟨z, ez, h⟩ := optK_of h
        obtain rfl : x = .ref a := rd
        cases rx
        refine tail_any (dic_typeIs I hm).1 PySem.F.slot_dict_getitem.lookup (dic_getItem hu I hm f ez re ry fun w w' s' I' rw' rz => ?_) hs
        exact ⟨w, H, I', rw', hw w H z G Tk.refl hG rz h⟩
      | rdc kvs =>
        obtain ⟨f, h⟩ := h
        obtain ⟨z, ez, h⟩ := optK_of h
        obtain rfl : x = .ref a := rd
        cases rx
        refine tail_any (dic_typeIs I hm).1 PySem.F.slot_dict_getitem.lookup (dic_getItem hu I hm f ez re ry fun w w' s' I' rw' rz => ?_) hs
        exact ⟨w, H, I', rw', hw w H z G Tk.refl hG rz h⟩
      | _ => exact h.elim
  | str z =>
    obtain rfl : x = .str z := rd
    obtain ⟨i, rfl, rfl, h⟩ := isI_of h re
    obtain ⟨h1, h⟩ := h
    obtain ⟨c, ec, h⟩ := optK_of h
    exact ix_str value slice pins s σ H _ _ v u Q I rx ry ⟨z, i, c, rfl, rfl, h1, ec, hw _ H (.str ⟨#[c]⟩) G Tk.refl hG rfl h⟩ hs
  | _ => exact h.elim
theorem qe_ix {a b : Expr} {ta tb : TD} {pos : Pos} (hu : X.A.units + 64 < cLine) (ha : QE X a ta) (hb : QE X b tb) (hs : PlainIx b) : QE X (.Subscript a b pos) (dOp rIx ta tb) := PE.imp (pe_ix (ix_d hu) ha hb hs) fun _ _ _ h => lift_op h
/-! ### in -/
def rInDic (n : Bool) : R2d := fun e d G q => match d with
  | .ref a => match G a with
    | some (.dic kvs) => fits kvs e = true ∧ q (.bl (xor n (dget kvs e).isSome)) G
    | some (.rdc kvs) => fits kvs e = true ∧ q (.bl (xor n (dget kvs e).isSome)) G
    | _ => False
  | _ => False
theorem op_inDic (hu : X.A.units + 64 < cLine) : OpR X (compareOp .In) (lift2 (wd X) (rInDic false)) := by
  intro pins s σ H x y v u Q I rx ry h
  obtain ⟨e, d, G, q, re, rd, hG, h, hw⟩ := h
  cases d with
  | ref a =>
    have h : (match G a with | some (.dic kvs) => fits kvs e = true ∧ q (.bl (xor false (dget kvs e).isSome)) G | some (.rdc kvs) => fits kvs e = true ∧ q (.bl (xor false (dget kvs e).isSome)) G | _ => False) := h
    cases eG : G a with
    | none => rw [eG] at h; exact h.elim
    | some m =>
      rw [eG] at h
      cases m with
      | dic kvs =>
        obtain rfl : y = .ref a := rd
        cases ry
        exact dic_in hu I (hG a _ eG) h.1 re rx fun s' I' => ⟨.bl _, H, I', rfl, hw _ H (.bl _) G Tk.refl hG rfl (by have := h.2; rw [Bool.false_xor] at this; exact this)⟩
      | rdc kvs =>
        obtain rfl : y = .ref a := rd
        cases ry
        exact dic_in hu I (hG a _ eG) h.1 re rx fun s' I' => ⟨.bl _, H, I', rfl, hw _ H (.bl _) G Tk.refl hG rfl (by have := h.2; rw [Bool.false_xor] at this; exact this)⟩
      | _ => exact h.elim
  | _ => exact h.elim
theorem op_notInDic (hu : X.A.units + 64 < cLine) : OpR X (compareOp .NotIn) (lift2 (wd X) (rInDic true)) := by
  intro pins s σ H x y v u Q I rx ry h
  obtain ⟨e, d, G, q, re, rd, hG, h, hw⟩ := h
  cases d with
  | ref a =>
    have h : (match G a with | some (.dic kvs) => fits kvs e = true ∧ q (.bl (xor true (dget kvs e).isSome)) G | some (.rdc kvs) => fits kvs e = true ∧ q (.bl (xor true (dget kvs e).isSome)) G | _ => False) := h
    cases eG : G a with
    | none => rw [eG] at h; exact h.elim
    | some m =>
      rw [eG] at h
      cases m with
      | dic kvs =>
        obtain rfl : y = .ref a := rd
        cases ry
        exact dic_notIn hu I (hG a _ eG) h.1 re rx fun s' I' => ⟨.bl _, H, I', rfl, hw _ H (.bl _) G Tk.refl hG rfl (by have := h.2; rw [Bool.true_xor] at this; exact this)⟩
      | rdc kvs =>
        obtain rfl : y = .ref a := rd
        cases ry
        exact dic_notIn hu I (hG a _ eG) h.1 re rx fun s' I' => ⟨.bl _, H, I', rfl, hw _ H (.bl _) G Tk.refl hG rfl (by have := h.2; rw [Bool.true_xor] at this; exact this)⟩
      | _ => exact h.elim
  | _ => exact h.elim
/-! ### o[i] = v -/
def rSet : D → D → D → Gp → (Gp → Prop) → Prop := fun o i v G q => match o with
  | .ref a => match G a with
    | some (.lst ds) => isI i fun i => optK (ixN ds.length i) fun j => q (gup G a (.lst (ds.set j v)))
    | some (.dic kvs) => fits kvs i = true ∧ kvs.length < sizeLine ∧ q (gup G a (.dic (dput kvs i v)))
    | _ => False
  | _ => False
def lift3 (W : Wd) (r : D → D → D → Gp → (Gp → Prop) → Prop) : TSet := fun o i v H Q => ∃ d e z G q, RelD W.K H d o ∧ RelD W.K H e i ∧ RelD W.K H z v ∧ AbsH W H G ∧ r d e z G q ∧ ∀ H' G', Tk W.K H H' → AbsH W H' G' → q G' → Q H'
theorem set_d (hu : X.A.units + 64 < cLine) : PSet X (lift3 (wd X) rSet) := by
  intro pins s σ H o i v ov iv u Q I ro ri rv h
  obtain ⟨d, e, z, G, q, rd, re, rz, hG, h, hw⟩ := h
  cases d with
  | ref a =>
    have h : (match G a with
      | some (.lst ds) => isI e fun i => optK (ixN ds.length i) fun j => q (gup G a (.lst (ds.set j z)))
      | some (.dic kvs) => fits kvs e = true ∧ kvs.length < sizeLine ∧ q (gup G a (.dic (dput kvs e z)))
      | _ => False) := h
    obtain rfl : o = .ref a := rd
    cases eG : G a with
    | none => rw [eG] at h; exact h.elim
    | some m =>
      rw [eG] at h
      have hm := hG a m eG
      cases m with
      | lst ds =>
        obtain ⟨xs, e1, rr⟩ := hm
        obtain ⟨k, rfl, rfl, h⟩ := isI_of h re
        obtain ⟨j, ej, h⟩ := optK_of h
        have tk : Tk X.K H (upd H a (.lst (xs.set j v))) := Tk.set e1 trivial
        exact set_list pins s σ H _ _ v ov iv u Q I ro ri rv ⟨a, xs, k, j, rfl, rfl, e1, by rw [rr.length]; exact ej, hw _ _ tk (hG.upd (m := .lst (ds.set j z)) tk ⟨_, upd_same, (rr.mono tk).set (rz.mono tk) j⟩) h⟩
      | dic kvs =>
        cases ro
        refine dic_setItem hu I hm h.1 h.2.1 re ri rv rz fun s' H' I' tk ⟨ob, eH⟩ ab => ⟨H', I', ?_⟩
        subst eH
        exact hw _ _ tk (hG.upd tk ab) h.2.2
      | _ => exact h.elim
  | _ => exact h.elim
def dSub (to ti : TD) : TGd := fun v σ G q => to σ G fun o G1 => ti σ G1 fun i G2 => rSet o i v G2 fun G3 => q σ G3
theorem qg_sub {o i : Expr} {to ti : TD} {pos : Pos} (hu : X.A.units + 64 < cLine) (ho : QE X o to) (hi : QE X i ti)
    (ha : ∀ v, assign (.Subscript o i pos) X.env v = (do
      let ov ← holding [v] (eval o X.env)
      let iv ← holding [v, ov] (eval i X.env)
      standAt pos
      holding [v, ov, iv] (setItem ov iv v)
      release [v, ov, iv] []) := by intro _; rfl) : QG X (.Subscript o i pos) (dSub to ti) :=
  PG.imp (pg_sub ho hi (set_d hu) ha) fun v σ H Q ⟨d, σd, G, q, rd, hS, hG, h, hw⟩ =>
    ⟨σd, G, _, hS, hG, h, fun o' H1 eo G1 t1 hG1 ro h1 => ⟨σd, G1, _, hS.mono t1, hG1, h1, fun i' H2 ei G2 t2 hG2 ri h2 =>
      ⟨eo, ei, d, G2, _, ro.mono t2, ri, rd.mono (t1.trans t2), hG2, h2, fun H3 G3 t3 hG3 h3 => hw σ H3 σd G3 ((t1.trans t2).trans t3) (((hS.mono t1).mono t2).mono t3) hG3 h3⟩⟩⟩
/-! ### a built-in's method -/
def tyD (T : String) (d : D) (G : Gp) : Prop := match d with
  | .str _ => T = "str"
  | .int _ => T = "int"
  | .ref a => match G a with
    | some (.lst _) => T = "list"
    | some (.rol _) => T = "list"
    | some (.dic _) => T = "dict"
    | some (.rdc _) => T = "dict"
    | _ => False
  | _ => False
theorem tyD_is {pins : List (Addr × Obj)} {σ : L2.St} {H : Hp} {s : Shared} {T : String} {d : D} {x : V} {v : Value} {G : Gp} (I : Inv X pins σ H s) (r : RelV x v) (rd : RelD X.K H d x) (hG : AbsH (wd X) H G) (ty : tyD T d G) :
    s.TypeIs v T ∧ ∀ a, v = .ref a → ∃ ob, s.heap.get? a = some ob ∧ ob.dict = none := by
  cases d with
  | str z =>
    obtain rfl : x = .str z := rd
    exact tyV_is I r ty
  | int z =>
    obtain rfl : x = .int z := rd
    exact tyV_is I r ty
  | ref a =>
    obtain rfl : x = .ref a := rd
    have ty : (match G a with | some (.lst _) => T = "list" | some (.rol _) => T = "list" | some (.dic _) => T = "dict" | some (.rdc _) => T = "dict" | _ => False) := ty
    cases eG : G a with
    | none => rw [eG] at ty; exact ty.elim
    | some m =>
      rw [eG] at ty
      have hm := hG a m eG
      cases m with
      | lst ds =>
        obtain ⟨xs, e1, _⟩ := hm
        exact tyV_is I r (.inl ⟨ty, xs, SqL.of e1⟩)
      | rol ds =>
        obtain ⟨xs, e1, _⟩ := hm
        exact tyV_is I r (.inl ⟨ty, xs, .inl e1⟩)
      | dic kvs =>
        cases r
        have ty : T = "dict" := ty
        subst ty
        obtain ⟨h1, o, h2, h3⟩ := dic_typeIs I hm
        exact ⟨h1, fun b e => by cases e; exact ⟨o, h2, h3⟩⟩
      | rdc kvs =>
        cases r
        have ty : T = "dict" := ty
        subst ty
        obtain ⟨h1, o, h2, h3⟩ := dic_typeIs I hm
        exact ⟨h1, fun b e => by cases e; exact ⟨o, h2, h3⟩⟩
      | _ => exact ty.elim
  | _ => exact ty.elim
abbrev RMd := D → List D → Gp → QD → Prop
def liftM (W : Wd) (r : RMd) : V → List V → Hp → VK → Prop := fun x xs H Q => ∃ d ds G q, RelD W.K H d x ∧ RelDs W.K H ds xs ∧ AbsH W H G ∧ r d ds G q ∧ Wish W H q Q
def dBM (T : String) (r : RMd) (to : TD) (ta : TAd) : TD := fun σ G q => to σ G fun x G1 => tyD T x G1 ∧ ta σ G1 fun xs G2 => r x xs G2 q
variable {o e : Expr} {es : List Expr} {to : TD} {ta : TAd} {name : Str} {apos cpos : Pos} {T id : String} {r : RMd}
theorem qe_bm0 (pa : PlainAttrs T) (slot : Slot T name id) (hty : typeOf (.builtin id) = pure (.type "method_descriptor")) (hm : MtR X id (liftM (wd X) r)) (ho : QE X o to)
    (hbase : attributeBase o name X.env (eval o X.env) = eval o X.env := by rfl) (hline : (apos.endLine == cpos.line) = true := by rfl) : QE X (.Call (.Attribute o name apos) [] [] cpos) (dBM T r to dNil) := by
  refine ⟨fun pins s σ H Q I h => ?_⟩
  obtain ⟨σd, G, q, hS, hG, h, hw⟩ := h
  refine wpAny_Call_method0_late hbase hline (thn (ho.run pins s σ H (fun x H1 => ∃ d G1, Tk X.K H H1 ∧ AbsH (wd X) H1 G1 ∧ RelD X.K H1 d x ∧ tyD T d G1 ∧ r d [] G1 q) I ⟨σd, G, _, hS, hG, h, fun x H1 d G1 tk hG1 rd h1 => ⟨d, G1, tk, hG1, rd, h1⟩⟩) fun v s1 ⟨x, H1, I1, r1, d, G1, tk, hG1, rd, ty, q1⟩ => ?_)
  obtain ⟨h1, h2⟩ := tyD_is I1 r1 rd hG1 ty
  exact ⟨T, id, pa, slot, hty, h1, h2, Calls.callWith_builtin rfl (PySem.evalArgs_none (hm pins s1 σ H1 x [] v [] Q I1 r1 .nil ⟨d, [], G1, q, rd, rfl, hG1, q1, hw.mono tk⟩))⟩
theorem qe_bm (pa : PlainAttrs T) (slot : Slot T name id) (hty : typeOf (.builtin id) = pure (.type "method_descriptor")) (hm : MtR X id (liftM (wd X) r)) (ho : QE X o to) (ha : QA X (e :: es) ta)
    (hbase : attributeBase o name X.env (eval o X.env) = eval o X.env := by rfl)
    (hfew : ((backTo cpos (starEach (e :: es) X.env)).all (fun x => !x.1) && (backToKw cpos (keywordEach [] X.env)).all (fun x => x.1.isSome)
      && decide ((e :: es).length + ([] : List Keyword).length + (if ([] : List Keyword).isEmpty then 0 else 1) < 30)) = true := by rfl)
    (hline : (apos.endLine == cpos.line) = true := by rfl) (hs : starEach (e :: es) X.env = (false, eval e X.env) :: starEach es X.env := by rfl) (hplain : (backTo cpos (starEach es X.env)).any (·.1) = false := by rfl) :
    QE X (.Call (.Attribute o name apos) (e :: es) [] cpos) (dBM T r to ta) := by
  refine ⟨fun pins s σ H Q I h => ?_⟩
  obtain ⟨σd, G, q, hS, hG, h, hw⟩ := h
  refine wpAny_Call_method_late hbase hfew hline rfl (thn (ho.run pins s σ H (fun x H1 => ∃ d G1, Tk X.K H H1 ∧ AbsH (wd X) H1 G1 ∧ RelD X.K H1 d x ∧ tyD T d G1 ∧ ta σd G1 fun xs G2 => r d xs G2 q) I ⟨σd, G, _, hS, hG, h, fun x H1 d G1 tk hG1 rd h1 => ⟨d, G1, tk, hG1, rd, h1⟩⟩) fun v s1 ⟨x, H1, I1, r1, d, G1, tk, hG1, rd, ty, q1⟩ => ?_)
  obtain ⟨h1, h2⟩ := tyD_is I1 r1 rd hG1 ty
  refine ⟨T, id, pa, slot, hty, h1, h2, ?_⟩
  have hA := ha.run cpos pins s1 σ H1 (fun xs H2 => ∃ ds G2, Tk X.K H1 H2 ∧ AbsH (wd X) H2 G2 ∧ RelDs X.K H2 ds xs ∧ r d ds G2 q) I1 ⟨σd, G1, _, hS.mono tk, hG1, q1, fun xs H2 ds G2 tk2 hG2 rr h2 => ⟨ds, G2, tk2, hG2, rr, h2⟩⟩
  rw [hs] at hA ⊢
  refine Calls.callWith_builtin (by show (false || (backTo cpos (starEach es X.env)).any (·.1)) = false; rw [hplain] <;> rfl) (Calls.evalArgs_plain ?_)
  exact thn hA fun us s2 ⟨vs, H2, I2, r2, ds, G2, tk2, hG2, rr, q2⟩ => hm pins s2 σ H2 x vs v us Q I2 r1 r2 ⟨d, ds, G2, q, rd.mono tk2, rr, hG2, q2, hw.mono (tk.trans tk2)⟩
/-! ### a built-in by its name -/
abbrev RNd := List D → Gp → QD → Prop
def dCB (r : RNd) (ta : TAd) : TD := fun σ G q => ta σ G fun ds G1 => r ds G1 q
theorem lift_cb {W : Wd} {r : RNd} {ta : TAd} {σ : L2.St} {H : Hp} {Q : VK} (h : lift W (dCB r ta) σ H Q) : tCB (liftN W r) (liftA W ta) σ H Q := by
  obtain ⟨σd, G, q, hS, hG, h, hw⟩ := h
  exact ⟨σd, G, _, hS, hG, h, fun vs H1 ds G1 tk hG1 rr h1 => ⟨ds, G1, q, rr, hG1, h1, hw.mono tk⟩⟩
variable {x : Str} {p pos : Pos} {rn : RNd}
theorem qe_callB (hc : CallR X (.builtin id) (liftN (wd X) rn)) (hg : Gl X x) (hm : X.mg x = none) (hv : bootBuiltins x = some (.builtin id)) (ha : QA X (e :: es) ta) (hn : x ≠ "__name__" := by decide) (hdb : (x == ("__debug__" : Str)) = false := by decide)
    (he : starEach (e :: es) X.env = (false, eval e X.env) :: starEach es X.env := by rfl) (hpl : (backTo pos (starEach es X.env)).any (·.1) = false := by rfl) : QE X (.Call (.Name x p) (e :: es) [] pos) (dCB rn ta) :=
  PE.imp (pe_callB hc hg hm hv ha hn hdb he hpl) fun _ _ _ h => lift_cb h
theorem qe_callTy (hc : CallR X (.type id) (liftN (wd X) rn)) (hg : Gl X x) (hm : X.mg x = none) (hv : bootBuiltins x = some (.type id)) (ha : QA X (e :: es) ta) (hn : x ≠ "__name__" := by decide) (hdb : (x == ("__debug__" : Str)) = false := by decide)
    (he : starEach (e :: es) X.env = (false, eval e X.env) :: starEach es X.env := by rfl) (hpl : (backTo pos (starEach es X.env)).any (·.1) = false := by rfl) : QE X (.Call (.Name x p) (e :: es) [] pos) (dCB rn ta) :=
  PE.imp (pe_callTy hc hg hm hv ha hn hdb he hpl) fun _ _ _ h => lift_cb h
/-! ### calls of own defs -/
/-- what a def promises, over data -/
abbrev SpD := List D → Gp → QD → Prop
def liftSp (W : Wd) (S : SpD) : Sp := fun vs H Q _ => ∃ ds G q, RelDs W.K H ds vs ∧ AbsH W H G ∧ S ds G q ∧ Wish W H q Q
def dCall (S : SpD) (dds : List D) (ta : TAd) : TD := fun σ G q => ta σ G fun ds G1 => S (ds ++ dds) G1 q
variable {CX : CXT} {k : Nat} {f : Addr} {fd : FuncData} {ps : List Str} {S : SpD} {dvs : List V} {dds : List D} {ds : List Value}
theorem lift_call {W : Wd} {σ : L2.St} {H : Hp} {Q : VK} {E : XK} (hd : ∀ H, RelDs W.K H dds dvs) (h : lift W (dCall S dds ta) σ H Q) : tCall (liftSp W S) dvs E (liftA W ta) σ H Q := by
  obtain ⟨σd, G, q, hS, hG, h, hw⟩ := h
  exact ⟨σd, G, _, hS, hG, h, fun vs H1 ds G1 tk hG1 rr h1 => ⟨ds ++ dds, G1, q, rr.append (hd H1), hG1, h1, hw.mono tk⟩⟩
theorem qe_call (F : FnOk X.prog X.w X.K X.mg X.base CX0 k f fd ps (liftSp (wd X) S)) (hr : Room k X.A) (hg : Gl X x) (hm : X.mg x = some (.ref f)) (hk : PySem.W.keepIn X.K (.ref f) = true) (hb : Binds X.K fd ps ds) (hd : Vals dvs ds) (hdd : ∀ H, RelDs X.K H dds dvs)
    (ha : QA X (e :: es) ta) (hdb : (x == ("__debug__" : Str)) = false := by decide) (he : starEach (e :: es) X.env = (false, eval e X.env) :: starEach es X.env := by rfl) (hpl : (backTo pos (starEach es X.env)).any (·.1) = false := by rfl) :
    QE X (.Call (.Name x p) (e :: es) [] pos) (dCall S dds ta) :=
  PE.imp (pe_call F hr hg hm hk hb hd pass0 ha hdb he hpl) fun _ _ _ h => lift_call hdd h
/-- the slots at a def's start -/
def startD (N : List Str) (ds : List D) : Sd := ds.map some ++ List.replicate (N.length - ds.length) none
theorem AbsS.start {W : Wd} {H : Hp} {N : List Str} {ds : List D} {vs : List V} (r : RelDs W.K H ds vs) : AbsS W H (L2.start N vs) (startD N ds) := by
  have hl := r.length
  refine ⟨by unfold L2.start startD; simp [hl], fun i d e => ?_⟩
  unfold startD at e
  unfold L2.start
  by_cases hi : i < ds.length
  · rw [List.getElem?_append_left (by simpa using hi), List.getElem?_map] at e
    obtain ⟨d', e1, e2⟩ := Option.map_eq_some_iff.mp e
    cases e2
    obtain ⟨v, ev, rv⟩ := r.get e1
    refine ⟨v, ?_, rv⟩
    rw [List.getElem?_append_left (by rw [List.length_map, hl]; exact hi), List.getElem?_map, ev]
    rfl
  · rw [List.getElem?_append_right (by simpa using hi), List.getElem?_replicate] at e
    split at e <;> cases e
/-- the rule of a def: its body's reading over data -/
theorem okD {P : Program} {w : World} {K : PySem.W.Frag} {mg : Str → Option Value} {base : Heap} {x qual : Str} {params : Arguments} {body : List Stmt} {scope : Scope} {dvs : List V} {kws : List (Str × V)} {N ps : List Str} {k : Nat} {f : Addr} {fd : FuncData} {S : SpD}
    (F : FunD K x qual params body scope dvs kws f fd) (Sc : FnScope N ps scope) (len : ∀ ds G q, S ds G q → ds.length = ps.length) (t : TSd)
    (der : ∀ (cdv : Value) (A : Around) (outer : List Env) (s : Shared) (H : Hp) (E : XK), Room k (A.deeper (envOfC qual scope s.heap.objs.size f cdv)) → QSs (cxOf CX0 P w K mg base N qual scope f cdv A outer s H E) body t)
    (rd : ∀ ds G q, S ds G q → t { nx := fun _ G' => fin (q .non) G', rt := fun d G' => fin (q d) G' } (startD N ds) G) : FnOk P w K mg base CX0 (k + 1) f fd ps (liftSp ⟨K, P, w⟩ S) := by
  refine F.ok Sc (fun vs H Q E h => ?_) (fun cdv A outer s H vs Q E hr h => ⟨_, der cdv A outer s H E hr, ?_⟩)
  · obtain ⟨ds, G, q, r, _, h, _⟩ := h
    rw [RelDs.length r]
    exact len ds G q h
  · obtain ⟨ds, G, q, r, hG, h, hw⟩ := h
    refine ⟨startD N ds, G, _, AbsS.start r, hG, rd ds G q h, ⟨fun σ' H' σd' G' tk hS' hG' ⟨G2, s2, q2⟩ => hw .non H' .non G2 tk (hG'.sub s2) rfl q2, fun v H' d G' tk hG' r' ⟨G2, s2, q2⟩ => hw v H' d G2 tk (hG'.sub s2) r' q2, fun _ _ _ _ _ _ _ z => z.elim, fun _ _ _ _ _ _ _ z => z.elim⟩⟩
end
end DL
/-! DL7: operators, comparisons, lists' methods, len, list, tuple, slices, over data. -/
namespace DL
open PySem PySem.Spec PyProof.Rows L2
section
variable {X : Cx}
/-! ### ints -/
def rI2 (g : Int → Int → D) : R2d := fun d e G q => isI d fun i => isI e fun j => q (g i j) G
def rI2c (C : Int → Int → Prop) (g : Int → Int → D) : R2d := fun d e G q => isI d fun i => isI e fun j => C i j ∧ q (g i j) G
theorem lift_rI2 {W : Wd} {g : Int → Int → D} {gv : Int → Int → V} (hg : ∀ i j K H, RelD K H (g i j) (gv i j)) {x y : V} {H : Hp} {Q : VK} (h : lift2 W (rI2 g) x y H Q) : rI0 gv x y H Q := by
  obtain ⟨d, e, G, q, rd, re, hG, h, hw⟩ := h
  obtain ⟨i, rfl, rfl, h⟩ := isI_of h rd
  obtain ⟨j, rfl, rfl, h⟩ := isI_of h re
  exact ⟨i, j, rfl, rfl, hw _ H _ G Tk.refl hG (hg i j _ _) h⟩
theorem lift_rI2c {W : Wd} {C : Int → Int → Prop} {g : Int → Int → D} {gv : Int → Int → V} (hg : ∀ i j K H, RelD K H (g i j) (gv i j)) {x y : V} {H : Hp} {Q : VK} (h : lift2 W (rI2c C g) x y H Q) : rI C gv x y H Q := by
  obtain ⟨d, e, G, q, rd, re, hG, h, hw⟩ := h
  obtain ⟨i, rfl, rfl, h⟩ := isI_of h rd
  obtain ⟨j, rfl, rfl, h⟩ := isI_of h re
  exact ⟨i, j, rfl, rfl, h.1, hw _ H _ G Tk.refl hG (hg i j _ _) h.2⟩
abbrev rSubI : R2d := rI2 fun i j => .int (i - j)
theorem od_sub : OpR X (binaryOp .Sub) (lift2 (wd X) rSubI) := OpR.imp op_sub fun _ _ _ _ h => lift_rI2 (by intro i j K H; rfl) h
abbrev rModI : R2d := rI2c (fun _ j => 0 < j) fun i j => .int (i % j)
theorem od_mod : OpR X (binaryOp .Mod) (lift2 (wd X) rModI) := OpR.imp op_mod fun _ _ _ _ h => lift_rI2c (by intro i j K H; rfl) h
abbrev rDivI : R2d := rI2c CDiv fun i j => .int (i / j)
theorem od_fdiv : OpR X (binaryOp .FloorDiv) (lift2 (wd X) rDivI) := OpR.imp op_fdiv fun _ _ _ _ h => lift_rI2c (by intro i j K H; rfl) h
abbrev rPowI : R2d := rI2c CPow fun i j => .int (i ^ j.toNat)
theorem od_pow : OpR X (binaryOp .Pow) (lift2 (wd X) rPowI) := OpR.imp op_pow fun _ _ _ _ h => lift_rI2c (by intro i j K H; rfl) h
abbrev rLt : R2d := rI2 fun i j => .bl (decide (i < j))
abbrev rLe : R2d := rI2 fun i j => .bl (decide (i ≤ j))
abbrev rGt : R2d := rI2 fun i j => .bl (decide (j < i))
abbrev rGe : R2d := rI2 fun i j => .bl (decide (j ≤ i))
theorem od_lt : OpR X (compareOp .Lt) (lift2 (wd X) rLt) := OpR.imp op_lt fun _ _ _ _ h => lift_rI2 (by intro i j K H; rfl) h
theorem od_le : OpR X (compareOp .LtE) (lift2 (wd X) rLe) := OpR.imp op_le fun _ _ _ _ h => lift_rI2 (by intro i j K H; rfl) h
theorem od_gt : OpR X (compareOp .Gt) (lift2 (wd X) rGt) := OpR.imp op_gt fun _ _ _ _ h => lift_rI2 (by intro i j K H; rfl) h
theorem od_ge : OpR X (compareOp .GtE) (lift2 (wd X) rGe) := OpR.imp op_ge fun _ _ _ _ h => lift_rI2 (by intro i j K H; rfl) h
/-- a + b: ints, texts, tuples, lists -/
def rAdd : R2d := fun d e G q => match d, e with
  | .int i, .int j => q (.int (i + j)) G
  | .str i, .str j => i.length + j.length ≤ sizeLine ∧ q (.str (i ++ j)) G
  | .tup ds, .tup es => ds.length + es.length ≤ sizeLine ∧ q (.tup (ds ++ es)) G
  | .ref a, .ref b => match G a, G b with
    | some (.lst ds), some (.lst es) => ds.length + es.length ≤ sizeLine ∧ newO (.lst (ds ++ es)) q G
    | _, _ => False
  | _, _ => False
theorem od_add : OpR X (binaryOp .Add) (lift2 (wd X) rAdd) := by
  intro pins s σ H x y v u Q I rx ry h
  obtain ⟨d, e, G, q, rd, re, hG, h, hw⟩ := h
  cases d with
  | int i =>
    cases e with
    | int j => exact op_add pins s σ H x y v u Q I rx ry ⟨i, j, rd, re, hw _ H (.int (i + j)) G Tk.refl hG rfl h⟩
    | _ => exact h.elim
  | str i =>
    cases e with
    | str j => exact op_add_str pins s σ H x y v u Q I rx ry ⟨i, j, rd, re, h.1, hw _ H (.str (i ++ j)) G Tk.refl hG rfl h.2⟩
    | _ => exact h.elim
  | tup ds =>
    cases e with
    | tup es =>
      obtain ⟨a, xs, rfl, ha, ra⟩ := rd
      obtain ⟨b, ys, rfl, hb, rb⟩ := re
      obtain ⟨h1, h2⟩ := h
      refine op_catA pins s σ H _ _ v u Q I rx ry ⟨a, b, xs, ys, rfl, rfl, ha, hb, by rw [ra.length, rb.length]; exact h1, fun e0 => ?_, fun _ e0 => ?_, fun _ _ p hp => ?_⟩
      · subst e0
        have : ds = [] := by
          have := ra.length
          cases ds with
          | nil => rfl
          | cons d ds => simp at this
        subst this
        exact hw _ H (.tup es) G Tk.refl hG ⟨b, ys, rfl, hb, rb⟩ h2
      · subst e0
        have : es = [] := by
          have := rb.length
          cases es with
          | nil => rfl
          | cons d ds => simp at this
        subst this
        rw [List.append_nil] at h2
        exact hw _ H (.tup ds) G Tk.refl hG ⟨a, xs, rfl, ha, ra⟩ h2
      · have tk : Tk X.K H (upd H p (.tup (xs ++ ys))) := Tk.new hp
        exact hw _ _ (.tup (ds ++ es)) G tk (hG.laid hp) ⟨p, xs ++ ys, rfl, SqT.of upd_same, (ra.append rb).mono tk⟩ h2
    | _ => exact h.elim
  | ref a =>
    cases e with
    | ref b =>
      obtain rfl : x = .ref a := rd
      obtain rfl : y = .ref b := re
      have h : (match G a, G b with
        | some (.lst ds), some (.lst es) => ds.length + es.length ≤ sizeLine ∧ newO (.lst (ds ++ es)) q G
        | _, _ => False) := h
      cases ea : G a with
      | none => rw [ea] at h; exact h.elim
      | some m =>
        cases m with
        | lst ds =>
          cases eb : G b with
          | none => rw [ea, eb] at h; exact h.elim
          | some m' =>
            cases m' with
            | lst es =>
              rw [ea, eb] at h
              obtain ⟨xs, e1, r1⟩ := hG a _ ea
              obtain ⟨ys, e2, r2⟩ := hG b _ eb
              exact op_cat pins s σ H _ _ v u Q I rx ry ⟨a, b, xs, ys, rfl, rfl, e1, e2, by rw [r1.length, r2.length]; exact h.1, fun p hp => new_lst hG hw (r1.append r2) h.2 hp⟩
            | _ => rw [ea, eb] at h; exact h.elim
        | _ => rw [ea] at h; exact h.elim
    | _ => exact h.elim
  | _ => exact h.elim
/-- a * b: ints, a list and an int -/
def rMul : R2d := fun d e G q => match d, e with
  | .int i, .int j => CMul i j ∧ q (.int (i * j)) G
  | .ref a, .int k => match G a with
    | some (.lst ds) => (-(2 ^ 63) ≤ k ∧ k < 2 ^ 63) ∧ ds.length * k.toNat ≤ sizeLine ∧ newO (.lst (List.replicate k.toNat ds).flatten) q G
    | _ => False
  | _, _ => False
theorem RelDs.rep {K : PySem.W.Frag} {H : Hp} {ds : List D} {xs : List V} (h : RelDs K H ds xs) : ∀ k : Nat, RelDs K H (List.replicate k ds).flatten (List.replicate k xs).flatten
  | 0 => rfl
  | k + 1 => by
    rw [List.replicate_succ, List.replicate_succ, List.flatten_cons, List.flatten_cons]
    exact RelDs.append h (RelDs.rep h k)
theorem od_mul : OpR X (binaryOp .Mult) (lift2 (wd X) rMul) := by
  intro pins s σ H x y v u Q I rx ry h
  obtain ⟨d, e, G, q, rd, re, hG, h, hw⟩ := h
  cases d with
  | int i =>
    cases e with
    | int j => exact op_mul pins s σ H x y v u Q I rx ry ⟨i, j, rd, re, h.1, hw _ H (.int (i * j)) G Tk.refl hG rfl h.2⟩
    | _ => exact h.elim
  | ref a =>
    cases e with
    | int k =>
      obtain rfl : x = .ref a := rd
      have h : (match G a with
        | some (.lst ds) => (-(2 ^ 63) ≤ k ∧ k < 2 ^ 63) ∧ ds.length * k.toNat ≤ sizeLine ∧ newO (.lst (List.replicate k.toNat ds).flatten) q G
        | _ => False) := h
      cases ea : G a with
      | none => rw [ea] at h; exact h.elim
      | some m =>
        cases m with
        | lst ds =>
          rw [ea] at h
          obtain ⟨xs, e1, r1⟩ := hG a _ ea
          exact op_rep pins s σ H _ _ v u Q I rx ry ⟨a, k, xs, rfl, re, e1, h.1.1, h.1.2, by rw [r1.length]; exact h.2.1, fun p hp => new_lst hG hw (r1.rep _) h.2.2 hp⟩
        | _ => rw [ea] at h; exact h.elim
    | _ => exact h.elim
  | _ => exact h.elim
/-- great ints -/
abbrev rDivW : R2d := rI2c CDivW fun i j => .int (i / j)
theorem od_fdivW : OpR X (binaryOp .FloorDiv) (lift2 (wd X) rDivW) := OpR.imp op_fdivW fun _ _ _ _ h => lift_rI2c (by intro i j K H; rfl) h
/-! ### lists' methods -/
def lstK (d : D) (G : Gp) (k : Addr → List D → Prop) : Prop := match d with
  | .ref a => match G a with
    | some (.lst ds) => k a ds
    | _ => False
  | _ => False
theorem lstK_of {W : Wd} {H : Hp} {d : D} {x : V} {G : Gp} {k : Addr → List D → Prop} (h : lstK d G k) (rd : RelD W.K H d x) (hG : AbsH W H G) : ∃ a ds xs, d = .ref a ∧ x = .ref a ∧ G a = some (.lst ds) ∧ H a = some (.lst xs) ∧ RelDs W.K H ds xs ∧ k a ds := by
  cases d with
  | ref a =>
    have h : (match G a with | some (.lst ds) => k a ds | _ => False) := h
    cases ea : G a with
    | none => rw [ea] at h; exact h.elim
    | some m =>
      cases m with
      | lst ds =>
        rw [ea] at h
        obtain ⟨xs, e1, r1⟩ := hG a _ ea
        exact ⟨a, ds, xs, rfl, rd, ea, e1, r1, h⟩
      | _ => rw [ea] at h; exact h.elim
  | _ => exact h.elim
theorem set_lst {W : Wd} {H : Hp} {G : Gp} {a : Addr} {ds : List D} {xs ys : List V} (hG : AbsH W H G) (e : H a = some (.lst xs)) (r : RelDs W.K H ds ys) : Tk W.K H (upd H a (.lst ys)) ∧ AbsH W (upd H a (.lst ys)) (gup G a (.lst ds)) := by
  have tk : Tk W.K H (upd H a (.lst ys)) := Tk.set e trivial
  exact ⟨tk, hG.upd (m := .lst ds) tk ⟨ys, upd_same, r.mono tk⟩⟩
def rAppendD : RMd := fun d es G q => arg1 es fun e => lstK d G fun a ds => ds.length < sizeLine ∧ q .non (gup G a (.lst (ds ++ [e])))
theorem mtd_append : MtR X "list.append" (liftM (wd X) rAppendD) := by
  intro pins s σ H x vs v us Q I rx rv h
  obtain ⟨d, ds, G, q, rd, rr, hG, h, hw⟩ := h
  obtain ⟨e, y, rfl, rfl, re, h⟩ := arg1_of h rr
  obtain ⟨a, es, xs, rfl, rfl, ea, e1, r1, h1, h2⟩ := lstK_of h rd hG
  obtain ⟨tk, hG'⟩ := set_lst (ds := es ++ [e]) hG e1 (r1.append (RelDs.cons re RelDs.nil))
  exact mt_append pins s σ H _ _ v us Q I rx rv ⟨a, xs, y, rfl, rfl, e1, by rw [r1.length]; exact h1, hw _ _ .non _ tk hG' rfl h2⟩
def rExtendD : RMd := fun d es G q => arg1 es fun e => lstK d G fun a ds => lstK e G fun _ zs => ds.length + zs.length ≤ sizeLine ∧ q .non (gup G a (.lst (ds ++ zs)))
theorem mtd_extend : MtR X "list.extend" (liftM (wd X) rExtendD) := by
  intro pins s σ H x vs v us Q I rx rv h
  obtain ⟨d, ds, G, q, rd, rr, hG, h, hw⟩ := h
  obtain ⟨e, y, rfl, rfl, re, h⟩ := arg1_of h rr
  obtain ⟨a, es, xs, rfl, rfl, ea, e1, r1, h⟩ := lstK_of h rd hG
  obtain ⟨b, zs, ys, rfl, rfl, eb, e2, r2, h1, h2⟩ := lstK_of h re hG
  obtain ⟨tk, hG'⟩ := set_lst (ds := es ++ zs) hG e1 (r1.append r2)
  exact mt_extend pins s σ H _ _ v us Q I rx rv ⟨a, b, xs, ys, rfl, rfl, e1, e2, by rw [r1.length, r2.length]; exact h1, hw _ _ .non _ tk hG' rfl h2⟩
theorem RelDs.dropLast {K : PySem.W.Frag} {H : Hp} {ds : List D} {xs : List V} (h : RelDs K H ds xs) : RelDs K H ds.dropLast xs.dropLast := by
  rw [List.dropLast_eq_take, List.dropLast_eq_take, h.length]
  exact h.take _
theorem RelDs.eraseIdx {K : PySem.W.Frag} {H : Hp} : ∀ {ds : List D} {xs : List V} (i : Nat), RelDs K H ds xs → RelDs K H (ds.eraseIdx i) (xs.eraseIdx i)
  | [], _, _, rfl => rfl
  | _ :: _, _, 0, ⟨x, r, rfl, q, t⟩ => t
  | _ :: _, _, i + 1, ⟨x, r, rfl, q, t⟩ => ⟨x, _, rfl, q, RelDs.eraseIdx i t⟩
def rPopD : RMd := fun d es G q => es = [] ∧ lstK d G fun a ds => optK ds.getLast? fun z => q z (gup G a (.lst ds.dropLast))
theorem mtd_pop : MtR X "list.pop" (liftM (wd X) rPopD) := by
  intro pins s σ H x vs v us Q I rx rv h
  obtain ⟨d, ds, G, q, rd, rr, hG, ⟨rfl, h⟩, hw⟩ := h
  obtain rfl : vs = [] := rr
  obtain ⟨a, es, xs, rfl, rfl, ea, e1, r1, h⟩ := lstK_of h rd hG
  obtain ⟨z, ez, h⟩ := optK_of h
  rw [List.getLast?_eq_getElem?] at ez
  obtain ⟨y, ey, ry⟩ := r1.get ez
  obtain ⟨tk, hG'⟩ := set_lst (ds := es.dropLast) hG e1 r1.dropLast
  exact mt_pop pins s σ H _ _ v us Q I rx rv ⟨a, xs, y, rfl, rfl, e1, by rw [r1.length]; exact ey, hw _ _ z _ tk hG' (ry.mono tk) h⟩
def rPopAtD : RMd := fun d es G q => arg1 es fun e => isI e fun i => lstK d G fun a ds => (-(2 ^ 63) ≤ i ∧ i < 2 ^ 63) ∧ optK (seqIndex? i ds.length) fun k => optK ds[k]? fun z => q z (gup G a (.lst (ds.eraseIdx k)))
theorem mtd_popAt : MtR X "list.pop" (liftM (wd X) rPopAtD) := by
  intro pins s σ H x vs v us Q I rx rv h
  obtain ⟨d, ds, G, q, rd, rr, hG, h, hw⟩ := h
  obtain ⟨e, y, rfl, rfl, re, h⟩ := arg1_of h rr
  obtain ⟨i, rfl, rfl, h⟩ := isI_of h re
  obtain ⟨a, es, xs, rfl, rfl, ea, e1, r1, ⟨b1, b2⟩, h⟩ := lstK_of h rd hG
  obtain ⟨k, ek, h⟩ := optK_of h
  obtain ⟨z, ez, h⟩ := optK_of h
  obtain ⟨y, ey, ry⟩ := r1.get ez
  obtain ⟨tk, hG'⟩ := set_lst (ds := es.eraseIdx k) hG e1 (r1.eraseIdx k)
  exact mt_popAt pins s σ H _ _ v us Q I rx rv ⟨a, xs, i, k, y, rfl, rfl, e1, b1, b2, by rw [r1.length]; exact ek, ey, hw _ _ z _ tk hG' (ry.mono tk) h⟩
end
end DL
/-! DL8: locked dicts walked; len, list, tuple, int, max, min; stars; slices. -/
namespace DL
open PySem PySem.Spec PyProof.Rows L2
section
variable {X : Cx}
/-! ### a dict locked while it is walked -/
def dLock (t : TSd) : TSd := fun E σ G => ∃ a kvs, G a = some (.dic kvs) ∧
  t ⟨fun σ' G' => G' a = some (.rdc kvs) ∧ E.nx σ' (gup G' a (.dic kvs)), fun d G' => G' a = some (.rdc kvs) ∧ E.rt d (gup G' a (.dic kvs)), fun σ' G' => G' a = some (.rdc kvs) ∧ E.bk σ' (gup G' a (.dic kvs)), fun σ' G' => G' a = some (.rdc kvs) ∧ E.ct σ' (gup G' a (.dic kvs))⟩ σ (gup G a (.rdc kvs))
theorem dic_ob {W : Wd} {H : Hp} {a : Addr} {kvs : List (D × D)} (h : Dic W H false a kvs) : ∃ u, H a = some u ∧ Mut (some u) ∧ ∀ H' : Hp, Tk W.K H H' → ∀ l, (AtM H' a l u) → Dic W H' l a kvs := by
  rcases h with ⟨xs, h, r⟩ | ⟨xs, h⟩
  · refine ⟨_, h, trivial, fun H' tk l e => Dic.mono (l := false) tk (fun o q => ?_) (.inl ⟨xs, h, r⟩)⟩
    have q : H a = some o := q
    have h : H a = some _ := h
    rw [h] at q
    cases q
    exact e
  · refine ⟨_, h.at_, trivial, fun H' tk l e => Dic.mono (l := false) tk (fun o q => ?_) (.inr ⟨xs, h⟩)⟩
    have q : H a = some o := q
    have h : H a = some _ := h.at_
    rw [h] at q
    cases q
    exact e
theorem lock_in {W : Wd} {H : Hp} {G : Gp} {a : Addr} {kvs : List (D × D)} {u : HO} {od : Obj} (hG : AbsH W H G) (e : G a = some (.dic kvs)) (eu : H a = some u) (mu : Mut (some u)) (re : ∀ H' : Hp, Tk W.K H H' → ∀ l, (AtM H' a l u) → Dic W H' l a kvs) :
    Tk W.K H (upd H a (.frz od u)) ∧ AbsH W (upd H a (.frz od u)) (gup G a (.rdc kvs)) := by
  have tk : Tk W.K H (upd H a (.frz od u)) := Tk.set eu mu
  exact ⟨tk, hG.upd (m := .rdc kvs) tk (re _ tk true ⟨od, upd_same⟩)⟩
theorem lock_out {W : Wd} {H H' : Hp} {G' : Gp} {a : Addr} {kvs : List (D × D)} {u : HO} {od : Obj} (eu : H a = some u) (mu : Mut (some u)) (tk : Tk W.K (upd H a (.frz od u)) H') (hG' : AbsH W H' G') (e' : G' a = some (.rdc kvs)) (re : ∀ H' : Hp, Tk W.K H H' → ∀ l, (AtM H' a l u) → Dic W H' l a kvs) :
    H' a = some (.frz od u) ∧ Tk W.K H (upd H' a u) ∧ Ts W.K H' (upd H' a u) ∧ AbsH W (upd H' a u) (gup G' a (.dic kvs)) := by
  have ea : H' a = some (.frz od u) := tk.fz a od u upd_same
  have t1 : Tk W.K H H' := (Tk.set eu mu).trans tk
  have nt : ∀ xs, u ≠ .tup xs := fun xs z => by
    rw [z] at mu
    exact mu
  have sq' : Ts W.K H' (upd H' a u) := fun b xs q => by
    rcases q with q | q
    · by_cases hb : b = a
      · subst hb
        rcases q with q | ⟨ob, q⟩
        · rw [ea] at q
          cases q
        · rw [ea] at q
          cases q
          exact (nt xs rfl).elim
      · rcases q with q | ⟨ob, q⟩
        · exact .inl (.inl (by rw [upd_ne hb]; exact q))
        · exact .inl (.inr ⟨ob, by rw [upd_ne hb]; exact q⟩)
    · exact .inr q
  have t2 : Tk W.K H (upd H' a u) := by
    refine ⟨fun b xs q => sq' b xs (t1.sq b xs q), fun b o v q => ?_⟩
    have hb : b ≠ a := by
      rintro rfl
      rw [eu] at q
      cases q
      exact mu.elim
    rw [upd_ne hb]
    exact t1.fz b o v q
  refine ⟨ea, t2, sq', fun b m e => ?_⟩
  by_cases hb : b = a
  · subst hb
    rw [gup_same] at e
    cases e
    exact re _ t2 false upd_same
  · rw [gup_ne hb] at e
    exact (hG' b m e).monoS sq' (upd_ne hb)
theorem qs_lock {st : Stmt} {t : TSd} (h : QS X st t) : QS X st (dLock t) :=
  PS.imp (ps_lock h) fun F σ H ⟨σd, G, E, hS, hG, ⟨a, kvs, ea, h⟩, l⟩ => by
    obtain ⟨u, eu, mu, re⟩ := dic_ob (hG a _ ea)
    refine ⟨a, u, eu, mu, fun od => ?_⟩
    obtain ⟨tk, hG1⟩ := lock_in (od := od) hG ea eu mu re
    refine ⟨σd, _, _, hS.mono tk, hG1, h, ⟨fun σ' H' σd' G' tk' hS' hG' ⟨e', q⟩ => ?_, fun v H' d G' tk' hG' r ⟨e', q⟩ => ?_, fun σ' H' σd' G' tk' hS' hG' ⟨e', q⟩ => ?_, fun σ' H' σd' G' tk' hS' hG' ⟨e', q⟩ => ?_⟩⟩
    · obtain ⟨e1, t2, ts, hG2⟩ := lock_out eu mu tk' hG' e' re
      exact ⟨e1, l.nx σ' _ σd' _ t2 ⟨hS'.len, fun i d e => let ⟨v, e1, r⟩ := hS'.get i d e; ⟨v, e1, r.monoS ts⟩⟩ hG2 q⟩
    · obtain ⟨e1, t2, ts, hG2⟩ := lock_out eu mu tk' hG' e' re
      exact ⟨e1, l.rt v _ d _ t2 hG2 (r.monoS ts) q⟩
    · obtain ⟨e1, t2, ts, hG2⟩ := lock_out eu mu tk' hG' e' re
      exact ⟨e1, l.bk σ' _ σd' _ t2 ⟨hS'.len, fun i d e => let ⟨v, e1, r⟩ := hS'.get i d e; ⟨v, e1, r.monoS ts⟩⟩ hG2 q⟩
    · obtain ⟨e1, t2, ts, hG2⟩ := lock_out eu mu tk' hG' e' re
      exact ⟨e1, l.ct σ' _ σd' _ t2 ⟨hS'.len, fun i d e => let ⟨v, e1, r⟩ := hS'.get i d e; ⟨v, e1, r.monoS ts⟩⟩ hG2 q⟩
def dLockE (t : TD) : TD := fun σ G q => ∃ a kvs, G a = some (.dic kvs) ∧ t σ (gup G a (.rdc kvs)) fun d G' => G' a = some (.rdc kvs) ∧ q d (gup G' a (.dic kvs))
theorem qe_lock {e : Expr} {t : TD} (h : QE X e t) : QE X e (dLockE t) :=
  PE.imp (pe_lock h) fun σ H Q ⟨σd, G, q, hS, hG, ⟨a, kvs, ea, h⟩, hw⟩ => by
    obtain ⟨u, eu, mu, re⟩ := dic_ob (hG a _ ea)
    refine ⟨a, u, eu, mu, fun od => ?_⟩
    obtain ⟨tk, hG1⟩ := lock_in (od := od) hG ea eu mu re
    refine ⟨σd, _, _, hS.mono tk, hG1, h, fun v H' d G' tk' hG' r ⟨e', q⟩ => ?_⟩
    obtain ⟨e1, t2, ts, hG2⟩ := lock_out eu mu tk' hG' e' re
    exact ⟨e1, hw v _ d _ t2 hG2 (r.monoS ts) q⟩
/-- a locked dict whose keys are ints and texts -/
def rdcK (d : D) (G : Gp) (k : List (D × D) → Prop) : Prop := match d with
  | .ref a => match G a with
    | some (.rdc kvs) => KeysK kvs ∧ k kvs
    | _ => False
  | _ => False
theorem rdcK_of {W : Wd} {H : Hp} {d : D} {x : V} {G : Gp} {k : List (D × D) → Prop} (h : rdcK d G k) (rd : RelD W.K H d x) (hG : AbsH W H G) : ∃ a kvs ob xs, d = .ref a ∧ x = .ref a ∧ H a = some (.frz ob (.dK xs)) ∧ Paired (KRel W H) kvs xs ∧ k kvs := by
  cases d with
  | ref a =>
    have h : (match G a with | some (.rdc kvs) => KeysK kvs ∧ k kvs | _ => False) := h
    cases ea : G a with
    | none => rw [ea] at h; exact h.elim
    | some m =>
      cases m with
      | rdc kvs =>
        rw [ea] at h
        obtain ⟨xs, ⟨ob, e1⟩, r1⟩ := dicK_of (hG a _ ea) h.1
        exact ⟨a, kvs, ob, xs, rfl, rd, e1, r1, h.2⟩
      | _ => rw [ea] at h; exact h.elim
  | _ => exact h.elim
theorem paired_get {α β : Type} {F : α → β → Prop} : ∀ {l : List α} {m : List β} {i : Nat} {b : β}, Paired F l m → m[i]? = some b → ∃ a, l[i]? = some a ∧ F a b
  | _, _, _, _, .nil, e => by simp at e
  | a :: _, b :: _, 0, _, .cons r _, e => by
    simp at e
    subst e
    exact ⟨a, rfl, r⟩
  | _ :: _, _ :: _, i + 1, c, .cons _ t, e => by
    obtain ⟨a, h1, h2⟩ := paired_get (i := i) (b := c) t (by simpa using e)
    exact ⟨a, by simpa using h1, h2⟩
theorem rel_kD {K : PySem.W.Frag} {H : Hp} (k : Key) : RelD K H (kD k) (kV k) := by
  cases k <;> rfl
theorem jok_items {W : Wd} {H0 : Hp} {a : Addr} {ob : Obj} {kvs : List (D × D)} {xs : List (Key × V)} (e : H0 a = some (.frz ob (.dK xs))) (r : Paired (KRel W H0) kvs xs) : JOk W H0 (Iti a ob xs) (kvs.map fun p => .tup [p.1, p.2]) (fun _ => True) where
  go := fun i H G tk _ _ hi => ⟨tk.fz a ob _ e, by rw [krel_len r]; simpa using hi⟩
  yld := fun i d H x H' hy G tk hG _ hd => by
    obtain ⟨T, k, v, hx, rfl, hT, rfl⟩ := hy
    obtain ⟨p, hp, rp⟩ := paired_get r hx
    rw [List.getElem?_map, hp] at hd
    cases hd
    refine ⟨Tk.new hT, hG.laid hT, ?_⟩
    dsimp only
    rw [rp.1]
    exact pair_new (kD k) hT (rp.2.mono tk) (rel_kD k)
  stop := fun H G tk _ _ => ⟨tk.fz a ob _ e, by rw [krel_len r]; simp⟩
theorem jok_values {W : Wd} {H0 : Hp} {a : Addr} {ob : Obj} {kvs : List (D × D)} {xs : List (Key × V)} (e : H0 a = some (.frz ob (.dK xs))) (r : Paired (KRel W H0) kvs xs) : JOk W H0 (Itd a ob xs) (kvs.map (·.2)) (fun _ => True) where
  go := fun i H G tk _ _ hi => ⟨tk.fz a ob _ e, by rw [krel_len r]; simpa using hi⟩
  yld := fun i d H x H' hy G tk hG _ hd => by
    obtain ⟨rfl, k, hx⟩ := hy
    obtain ⟨p, hp, rp⟩ := paired_get r hx
    rw [List.getElem?_map, hp] at hd
    cases hd
    exact ⟨Tk.refl, hG, rp.2.mono tk⟩
  stop := fun H G tk _ _ => ⟨tk.fz a ob _ e, by rw [krel_len r]; simp⟩
theorem jok_keys {W : Wd} {H0 : Hp} {a : Addr} {ob : Obj} {kvs : List (D × D)} {xs : List (Key × V)} (e : H0 a = some (.frz ob (.dK xs))) (r : Paired (KRel W H0) kvs xs) : JOk W H0 (Itk a ob xs) (kvs.map (·.1)) (fun _ => True) where
  go := fun i H G tk _ _ hi => ⟨tk.fz a ob _ e, by rw [krel_len r]; simpa using hi⟩
  yld := fun i d H x H' hy G tk hG _ hd => by
    obtain ⟨rfl, k, v, hx, rfl⟩ := hy
    obtain ⟨p, hp, rp⟩ := paired_get r hx
    rw [List.getElem?_map, hp] at hd
    cases hd
    refine ⟨Tk.refl, hG, ?_⟩
    show RelD W.K _ p.1 (kV k)
    rw [rp.1]
    exact rel_kD k
  stop := fun H G tk _ _ => ⟨tk.fz a ob _ e, by rw [krel_len r]; simp⟩
variable {tg e : Expr} {te : TD} {apos cpos : Pos}
def dItems (te : TD) : TId := fun σ G r => te σ G fun d G1 => rdcK d G1 fun kvs => r (kvs.map fun p => .tup [p.1, p.2]) (fun _ => True) G1
def dValues (te : TD) : TId := fun σ G r => te σ G fun d G1 => rdcK d G1 fun kvs => r (kvs.map (·.2)) (fun _ => True) G1
def dKeys (te : TD) : TId := fun σ G r => te σ G fun d G1 => rdcK d G1 fun kvs => r (kvs.map (·.1)) (fun _ => True) G1
theorem qi_items {elts : List Expr} {kk : Nat} {tpos : Pos} (he : QE X e te) (hbase : attributeBase e "items" X.env (eval e X.env) = eval e X.env := by rfl) (hline : (apos.endLine == cpos.line) = true := by rfl) :
    QI X (.Tuple elts kk tpos) (.Call (.Attribute e "items" apos) [] [] cpos) (dItems te) :=
  PI.imp (pi_items he hbase hline) fun σ H R ⟨σd, G, r, hS, hG, h, hw⟩ => ⟨σd, G, _, hS, hG, h, fun v H1 d G1 tk hG1 rd h1 => by
    obtain ⟨a, kvs, ob, xs, rfl, rfl, e1, r1, q⟩ := rdcK_of h1 rd hG1
    exact ⟨a, ob, xs, rfl, e1, hw _ H1 _ _ G1 tk hG1 (jok_items e1 r1) q⟩⟩
theorem qi_values (he : QE X e te) (hbase : attributeBase e "values" X.env (eval e X.env) = eval e X.env := by rfl) (hline : (apos.endLine == cpos.line) = true := by rfl) :
    QI X tg (.Call (.Attribute e "values" apos) [] [] cpos) (dValues te) :=
  PI.imp (pi_values he hbase hline) fun σ H R ⟨σd, G, r, hS, hG, h, hw⟩ => ⟨σd, G, _, hS, hG, h, fun v H1 d G1 tk hG1 rd h1 => by
    obtain ⟨a, kvs, ob, xs, rfl, rfl, e1, r1, q⟩ := rdcK_of h1 rd hG1
    exact ⟨a, ob, xs, rfl, e1, hw _ H1 _ _ G1 tk hG1 (jok_values e1 r1) q⟩⟩
theorem qi_keys (he : QE X e te) : QI X tg e (dKeys te) :=
  PI.imp (pi_keys he) fun σ H R ⟨σd, G, r, hS, hG, h, hw⟩ => ⟨σd, G, _, hS, hG, h, fun v H1 d G1 tk hG1 rd h1 => by
    obtain ⟨a, kvs, ob, xs, rfl, rfl, e1, r1, q⟩ := rdcK_of h1 rd hG1
    exact ⟨a, ob, rfl, .inl ⟨xs, e1, hw _ H1 _ _ G1 tk hG1 (jok_keys e1 r1) q⟩⟩⟩
end
end DL
/-! DL9: len, list, tuple, int, max, min; stars; slices; ==. -/
namespace DL
open PySem PySem.Spec PyProof.Rows L2
section
variable {X : Cx}
/-! ### len -/
def rLen : RNd := fun ds G q => arg1 ds fun d => match d with
  | .str z => z.length ≤ sizeLine ∧ q (.int z.length) G
  | .tup es => q (.int es.length) G
  | .ref a => match G a with
    | some (.lst es) => q (.int es.length) G
    | some (.rol es) => q (.int es.length) G
    | some (.dic kvs) => q (.int kvs.length) G
    | some (.rdc kvs) => q (.int kvs.length) G
    | _ => False
  | _ => False
theorem len_dic {pins : List (Addr × Obj)} {s : Shared} {σ : L2.St} {H : Hp} {a : Addr} {kvs : List (D × D)} {l : Bool} {Q : VK} (I : Inv X pins σ H s) (h : Dic (wd X) H l a kvs) (q : Q (.int kvs.length) H) : wpAny (model X.prog X.w) X.A (call (.builtin "len") [.ref a]) (EP X pins σ Q) X.xe s := by
  have hs : sizeLine = 16777216 := sizeLine_eq
  rcases h with ⟨xs, e, r⟩ | ⟨xs, h⟩
  · rw [← krel_len r] at q
    refine d_len I e.rd fun t s' I' => ⟨.int xs.length, H, I', ⟨t, rfl⟩, q⟩
  · have hm := dicT_heap I h
    have hx : kvs.length = xs.length := Paired.length h.rel
    have hz := h.len
    refine PyProof.Rows.call_len_slot (n := kvs.length) hm.typeIs PySem.F.slot_dict_len (fun Q' hq => len_keyed (kvs := pairsH xs) h.sys ⟨xs, hm, rfl⟩ (by rw [pairsH_length, ← hx]; exact hq)) (by omega) (by omega) ?_
    exact ⟨.int kvs.length, H, I.tok _, ⟨_, rfl⟩, q⟩
theorem cd_len : CallR X (.builtin "len") (liftN (wd X) rLen) := by
  intro pins s σ H xs us Q I r h
  obtain ⟨ds, G, q, rr, hG, h, hw⟩ := h
  obtain ⟨d, v, rfl, rfl, rd, h⟩ := arg1_of h rr
  cases d with
  | str z =>
    obtain rfl : v = .str z := rd
    exact call_len pins s σ H _ us Q I r ⟨_, z.length, rfl, ⟨h.1, rfl⟩, hw _ H (.int z.length) G Tk.refl hG rfl h.2⟩
  | tup es =>
    obtain ⟨a, xs, rfl, hq, ra⟩ := rd
    exact call_len pins s σ H _ us Q I r ⟨_, es.length, rfl, .inr ⟨xs, hq, ra.length.symm⟩, hw _ H (.int es.length) G Tk.refl hG rfl h⟩
  | ref a =>
    obtain rfl : v = .ref a := rd
    have h : (match G a with
      | some (.lst es) => q (.int es.length) G
      | some (.rol es) => q (.int es.length) G
      | some (.dic kvs) => q (.int kvs.length) G
      | some (.rdc kvs) => q (.int kvs.length) G
      | _ => False) := h
    obtain ⟨u, rfl, ru⟩ := vals1 r
    cases ea : G a with
    | none => rw [ea] at h; exact h.elim
    | some m =>
      rw [ea] at h
      have hm := hG a m ea
      cases m with
      | lst es =>
        obtain ⟨xs, e1, r1⟩ := hm
        exact call_len pins s σ H _ _ Q I r ⟨_, es.length, rfl, .inl ⟨xs, SqL.of e1, r1.length.symm⟩, hw _ H (.int es.length) G Tk.refl hG rfl h⟩
      | rol es =>
        obtain ⟨xs, e1, r1⟩ := hm
        exact call_len pins s σ H _ _ Q I r ⟨_, es.length, rfl, .inl ⟨xs, .inl e1, r1.length.symm⟩, hw _ H (.int es.length) G Tk.refl hG rfl h⟩
      | dic kvs =>
        cases ru
        exact len_dic I hm (hw _ H (.int kvs.length) G Tk.refl hG rfl h)
      | rdc kvs =>
        cases ru
        exact len_dic I hm (hw _ H (.int kvs.length) G Tk.refl hG rfl h)
      | _ => exact h.elim
  | _ => exact h.elim
/-! ### list(x), tuple(x): of lists, tuples; of a dict whose keys are ints, texts -/
def rList : RNd := fun ds G q => arg1 ds fun d => match d with
  | .tup es => newO (.lst es) q G
  | .ref a => match G a with
    | some (.lst es) => newO (.lst es) q G
    | some (.rol es) => newO (.lst es) q G
    | some (.dic kvs) => KeysK kvs ∧ newO (.lst (kvs.map (·.1))) q G
    | some (.rdc kvs) => KeysK kvs ∧ newO (.lst (kvs.map (·.1))) q G
    | _ => False
  | _ => False
theorem krel_keys {W : Wd} {H : Hp} {kvs : List (D × D)} {xs : List (Key × V)} (h : Paired (KRel W H) kvs xs) : RelDs W.K H (kvs.map (·.1)) (xs.map fun kv => kV kv.1) := by
  induction h with
  | nil => exact rfl
  | cons a t ih =>
    refine RelDs.cons ?_ ih
    dsimp only
    rw [a.1]
    exact rel_kD _
theorem cd_list (hc : X.calm = true) : CallR X (.type "list") (liftN (wd X) rList) := by
  intro pins s σ H xs us Q I r h
  obtain ⟨ds, G, q, rr, hG, h, hw⟩ := h
  obtain ⟨d, v, rfl, rfl, rd, h⟩ := arg1_of h rr
  cases d with
  | tup es =>
    obtain ⟨a, xs, rfl, hq, ra⟩ := rd
    exact call_list_of pins s σ H _ us Q I r ⟨a, xs, rfl, .inr hq, fun p hp => new_lst hG hw ra h hp⟩
  | ref a =>
    obtain rfl : v = .ref a := rd
    have h : (match G a with
      | some (.lst es) => newO (.lst es) q G
      | some (.rol es) => newO (.lst es) q G
      | some (.dic kvs) => KeysK kvs ∧ newO (.lst (kvs.map (·.1))) q G
      | some (.rdc kvs) => KeysK kvs ∧ newO (.lst (kvs.map (·.1))) q G
      | _ => False) := h
    cases ea : G a with
    | none => rw [ea] at h; exact h.elim
    | some m =>
      rw [ea] at h
      have hm := hG a m ea
      cases m with
      | lst es =>
        obtain ⟨xs, e1, r1⟩ := hm
        exact call_list_of pins s σ H _ us Q I r ⟨a, xs, rfl, .inl (SqL.of e1), fun p hp => new_lst hG hw r1 h hp⟩
      | rol es =>
        obtain ⟨xs, e1, r1⟩ := hm
        exact call_list_of pins s σ H _ us Q I r ⟨a, xs, rfl, .inl (.inl e1), fun p hp => new_lst hG hw r1 h hp⟩
      | dic kvs =>
        obtain ⟨xs, e1, r1⟩ := dicK_of hm h.1
        exact call_listD hc pins s σ H _ us Q I r ⟨a, xs, rfl, e1.rd, fun p hp => new_lst hG hw (krel_keys r1) h.2 hp⟩
      | rdc kvs =>
        obtain ⟨xs, e1, r1⟩ := dicK_of hm h.1
        exact call_listD hc pins s σ H _ us Q I r ⟨a, xs, rfl, e1.rd, fun p hp => new_lst hG hw (krel_keys r1) h.2 hp⟩
      | _ => exact h.elim
  | _ => exact h.elim
def rTuple : RNd := fun ds G q => arg1 ds fun d => match d with
  | .tup es => q (.tup es) G
  | .ref a => match G a with
    | some (.lst es) => q (.tup es) G
    | some (.rol es) => q (.tup es) G
    | _ => False
  | _ => False
theorem new_tup {W : Wd} {H : Hp} {G : Gp} {q : QD} {Q : VK} {ds : List D} {vs : List V} {p : Addr} (hG : AbsH W H G) (hw : Wish W H q Q) (r : RelDs W.K H ds vs) (h : q (.tup ds) G) (hp : H p = none) : Q (.ref p) (L2.upd H p (.tup vs)) := by
  have tk : Tk W.K H (L2.upd H p (.tup vs)) := Tk.new hp
  exact hw _ _ (.tup ds) _ tk (hG.laid hp) ⟨p, vs, rfl, SqT.of upd_same, r.mono tk⟩ h
theorem cd_tuple : CallR X (.type "tuple") (liftN (wd X) rTuple) := by
  intro pins s σ H xs us Q I r h
  obtain ⟨ds, G, q, rr, hG, h, hw⟩ := h
  obtain ⟨d, v, rfl, rfl, rd, h⟩ := arg1_of h rr
  cases d with
  | tup es =>
    obtain ⟨a, xs, rfl, hq, ra⟩ := rd
    exact call_tuple_of pins s σ H _ us Q I r ⟨a, xs, rfl, .inr ⟨hq, hw _ H (.tup es) G Tk.refl hG ⟨a, xs, rfl, hq, ra⟩ h⟩⟩
  | ref a =>
    obtain rfl : v = .ref a := rd
    have h : (match G a with
      | some (.lst es) => q (.tup es) G
      | some (.rol es) => q (.tup es) G
      | _ => False) := h
    cases ea : G a with
    | none => rw [ea] at h; exact h.elim
    | some m =>
      rw [ea] at h
      have hm := hG a m ea
      cases m with
      | lst es =>
        obtain ⟨xs, e1, r1⟩ := hm
        exact call_tuple_of pins s σ H _ us Q I r ⟨a, xs, rfl, .inl ⟨SqL.of e1, fun p hp => new_tup hG hw r1 h hp⟩⟩
      | rol es =>
        obtain ⟨xs, e1, r1⟩ := hm
        exact call_tuple_of pins s σ H _ us Q I r ⟨a, xs, rfl, .inl ⟨.inl e1, fun p hp => new_tup hG hw r1 h hp⟩⟩
      | _ => exact h.elim
  | _ => exact h.elim
/-! ### int(n), max(m, n), min(m, n) -/
def rInt : RNd := fun ds G q => arg1 ds fun d => match d with
  | .int i => q (.int i) G
  | .bl b => q (.int (if b then 1 else 0)) G
  | _ => False
theorem cd_int : CallR X (.type "int") (liftN (wd X) rInt) := by
  intro pins s σ H xs us Q I r h
  obtain ⟨ds, G, q, rr, hG, h, hw⟩ := h
  obtain ⟨d, v, rfl, rfl, rd, h⟩ := arg1_of h rr
  cases d with
  | int i =>
    obtain rfl : v = .int i := rd
    exact call_int1 pins s σ H _ us Q I r (.inl ⟨i, rfl, hw _ H (.int i) G Tk.refl hG rfl h⟩)
  | bl b =>
    obtain rfl : v = .bl b := rd
    exact call_int1 pins s σ H _ us Q I r (.inr ⟨b, rfl, hw _ H (.int (if b then 1 else 0)) G Tk.refl hG rfl h⟩)
  | _ => exact h.elim
def rMax : RNd := fun ds G q => arg2 ds fun d e => isI d fun i => isI e fun j => q (.int (if j > i then j else i)) G
def rMin : RNd := fun ds G q => arg2 ds fun d e => isI d fun i => isI e fun j => q (.int (if j < i then j else i)) G
theorem cd_max (hc : X.calm = true) : CallR X (.builtin "max") (liftN (wd X) rMax) := by
  intro pins s σ H xs us Q I r h
  obtain ⟨ds, G, q, rr, hG, h, hw⟩ := h
  obtain ⟨d, e, v, u, rfl, rfl, rd, re, h⟩ := arg2_of h rr
  obtain ⟨i, rfl, rfl, h⟩ := isI_of h rd
  obtain ⟨j, rfl, rfl, h⟩ := isI_of h re
  exact call_max2 hc pins s σ H _ us Q I r ⟨i, j, rfl, hw _ H (.int _) G Tk.refl hG rfl h⟩
theorem cd_min (hc : X.calm = true) : CallR X (.builtin "min") (liftN (wd X) rMin) := by
  intro pins s σ H xs us Q I r h
  obtain ⟨ds, G, q, rr, hG, h, hw⟩ := h
  obtain ⟨d, e, v, u, rfl, rfl, rd, re, h⟩ := arg2_of h rr
  obtain ⟨i, rfl, rfl, h⟩ := isI_of h rd
  obtain ⟨j, rfl, rfl, h⟩ := isI_of h re
  exact call_min2 hc pins s σ H _ us Q I r ⟨i, j, rfl, hw _ H (.int _) G Tk.refl hG rfl h⟩
/-! ### stars -/
variable {e : Expr} {es : List Expr} {te : TD} {ta : TAd} {p : Pos}
def dStar (te : TD) (ta : TAd) : TAd := fun σ G q => te σ G fun d G1 => isSeq d G1 fun xs _ => ta σ G1 fun ys G2 => q (xs ++ ys) G2
theorem qa_star (he : QE X e te) (hr : QA X es ta) (hs : starEach (.Starred e p :: es) X.env = (true, eval e X.env) :: starEach es X.env := by rfl) : QA X (.Starred e p :: es) (dStar te ta) :=
  PA.imp (StX.pa_star he hr hs) fun σ H Q ⟨σd, G, q, hS, hG, h, hw⟩ => ⟨σd, G, _, hS, hG, h, fun v H1 d G1 tk hG1 rd h1 => by
    obtain ⟨xs, st, h2, hh⟩ := isSeq_of h1 rd hG1
    have go : ∀ (vs : List V), RelDs X.K H1 xs vs → liftA (wd X) ta σ H1 (fun ws H2 => Q (vs ++ ws) H2) := fun vs rv =>
      ⟨σd, G1, _, hS.mono tk, hG1, h2, fun ws H2 ys G2 tk2 hG2 r2 h3 => hw _ H2 _ G2 (tk.trans tk2) hG2 ((rv.mono tk2).append r2) h3⟩
    rcases hh with ⟨a, vs, rfl, hq, rv, _⟩ | ⟨a, vs, rfl, hq, rv, _⟩
    · exact ⟨a, vs, rfl, .inl hq, go vs rv⟩
    · exact ⟨a, vs, rfl, .inr hq, go vs rv⟩⟩
end
end DL
/-! DL10: slices, [::-1], extend by a tuple, == of data, in, index. -/
namespace L2
open PySem PySem.Spec PyProof.Rows HT
section
variable {prog : Program} {w : World} {A : Around} {E : Value → Shared → Prop} {s : Shared}
theorem dl_places (n : Nat) : Builtin.Slice.slicePlaces ((n : Int) - 1) (-1) (-1) = n := by
  unfold Builtin.Slice.slicePlaces
  rw [if_neg (by decide)]
  by_cases h : (n : Int) - 1 > -1
  · rw [if_pos h]
    have : (((n : Int) - 1 - -1 - 1) / -(-1) + 1) = (n : Int) := by
      rw [show -(-1 : Int) = 1 from rfl, Int.ediv_one]
      omega
    rw [this]
    simp
  · rw [if_neg h]
    omega
theorem dl_sliceRev {sl : Addr} {n : Nat} {t : Tok} {Q : Int × Int × Nat → Shared → Prop} (hs : s.heap.IsSliceOf sl .none .none (.int (-1) t))
    (h : Q ((n : Int) - 1, -1, n) s) : wpAny (model prog w) A (Builtin.Slice.sliceApplied (.ref sl) (pure (n : Int))) Q E s := by
  obtain ⟨os, hos, hcs, hds⟩ := id hs
  unfold Builtin.Slice.sliceApplied Builtin.Slice.sliceFields
  refine wpAny_bind (wpAny_bind (wpAny_field hos hds (x := .none) rfl (wpAny_bind (wpAny_field hos hds (x := .none) rfl (wpAny_bind (wpAny_field hos hds (x := .int (-1) t) rfl (wpAny_pure ?_)))))))
  refine wpAny_bind (slicePart_int ?_)
  show wpAny _ _ (if ((-1 : Int) == 0) = true then _ else _) _ _ s
  rw [if_neg (by decide)]
  refine wpAny_bind (slicePart_none (wpAny_bind (slicePart_none (wpAny_bind (wpAny_pure ?_)))))
  show wpAny _ _ (pure (((n : Int) - 1), (-1 : Int), Builtin.Slice.slicePlaces ((n : Int) - 1) (-1) (-1))) _ _ s
  rw [dl_places]
  exact wpAny_pure h
theorem dl_fm {α β : Type} {f g : α → Option β} : ∀ {l : List α}, (∀ a ∈ l, f a = g a) → l.filterMap f = l.filterMap g
  | [], _ => rfl
  | a :: l, h => by
    rw [List.filterMap_cons, List.filterMap_cons, h a List.mem_cons_self, dl_fm fun b hb => h b (List.mem_cons_of_mem _ hb)]
theorem dl_pickRev (xs : Array Value) : ((List.range xs.size).filterMap fun (m : Nat) => xs[(((xs.size : Int) - 1) + (m : Int) * (-1)).toNat]?).toArray = xs.toList.reverse.toArray := by
  congr 1
  have e : (List.range xs.size).filterMap (fun (m : Nat) => xs[(((xs.size : Int) - 1) + (m : Int) * (-1)).toNat]?) = ((List.range xs.size).map fun k => xs.size - 1 - k).filterMap (xs[·]?) := by
    rw [List.filterMap_map]
    refine dl_fm fun m hm => ?_
    have := List.mem_range.mp hm
    show xs[(((xs.size : Int) - 1) + (m : Int) * (-1)).toNat]? = xs[xs.size - 1 - m]?
    have e2 : (((xs.size : Int) - 1) + (m : Int) * (-1)).toNat = xs.size - 1 - m := by omega
    rw [e2]
  rw [e, PySem.W.krv_range, List.filterMap_reverse, PySem.W.krv_all]
theorem dl_getItem_tuple_rev {t sl : Addr} {items : Array Value} {tk : Tok} {Q : Value → Shared → Prop} (ht : IsTup s.heap t items) (hs : s.heap.IsSliceOf sl .none .none (.int (-1) tk))
    (h : Q (.ref s.heap.objs.size) { s with heap := s.heap.push { cls := .type "tuple", data := .seq items.toList.reverse.toArray } })
    (hsz : items.size ≤ sizeLine) : wpAny (model prog w) A (getItem (.ref t) (.ref sl)) Q E s := by
  have htake : sizeOk (.seq items.toList.reverse.toArray) := by
    show items.toList.reverse.toArray.size ≤ sizeLine
    rw [List.size_toArray, List.length_reverse, Array.length_toList]
    exact hsz
  obtain ⟨os, hos, hcs, hds⟩ := id hs
  have hTs : s.TypeIs (.ref sl) "slice" := ⟨os, hos, hcs⟩
  unfold getItem
  try with_reducible refine wpAny_holding ?_
  first | refine wpAny_bind (wpAny_pure ?_) | skip
  refine wpAny_bind (wpAny_sequenceKey ht.typeIs (by decide) ?_)
  refine wpAny_bind (wpAny_callSpecial?_slot (name := Str.ofString "__getitem__") ht.typeIs PyProof.Rows.slot_tuple_getitem
    (wpAny_call_entry PyProof.Rows.slot_tuple_getitem ht.typeIs entry_tuple_getitem ?_ (args_tuple_getitem _ _)))
  show wpAny _ _ (Builtin.Tuple.tupleItemsOf (.ref t) >>= _) _ _ s
  refine wpAny_bind (tupleItemsOf_ ht ?_)
  refine wpAny_bind (wpAny_typeOf hTs ?_)
  rw [if_pos (by decide)]
  refine wpAny_bind (dl_sliceRev hs ?_)
  have hno : ¬ ((((items.size : Int) - 1) == 0 && (-1 : Int) == 1 && items.size == items.size) = true) := by
    intro q
    rw [Bool.and_eq_true, Bool.and_eq_true] at q
    exact absurd q.1.2 (by decide)
  show wpAny _ _ (if (((items.size : Int) - 1) == 0 && (-1 : Int) == 1 && items.size == items.size) = true then _ else _) _ _ s
  rw [if_neg hno, dl_pickRev]
  first
    | exact wpAny_bind (m := Builtin.Tuple.tupleExact _) (wpAny_newObj_type (wpAny_pure ⟨_, rfl, wpAny_pure h⟩) htake)
    | exact wpAny_bind (m := Builtin.Tuple.tupleExact _) (wpAny_newObj_type (wpAny_bind (wpAny_pure (wpAny_pure ⟨_, rfl, wpAny_pure h⟩))) htake)
    | exact wpAny_bind (wpAny_bind (m := Builtin.Tuple.tupleExact _) (wpAny_newObj_type (wpAny_pure (wpAny_pure ⟨_, rfl, wpAny_pure h⟩)) htake))
    | exact wpAny_bind (wpAny_bind (m := Builtin.Tuple.tupleExact _) (wpAny_newObj_type (wpAny_pure ⟨_, rfl, wpAny_pure h⟩) htake))
end
end L2
namespace PySem.AutoSeq1
open PySem
/-- list.extend by any tuple -/
theorem dl_extend_tuple (l : Addr) (items : Array Value) (n : Nat) (b : Addr) (items2 : Array Value) (n2 : Nat) (dd : Option Addr) (sl : Array (Option Value)) (hs0 : ¬(!items.isEmpty && Builtin.List.listTooLong (items.size + items2.size)) = true) (hs1 : items.size ≤ sizeLine) (hs2 : items.size + items2.size ≤ sizeLine + 1) :
    Meets (Builtin.«list.extend» ⟨[.ref l, .ref b], []⟩) (fun _ R s => s.heap.get? l = some { cls := .type "list", dict := none, data := .seq items n, slots := #[] } ∧ s.heap.get? b = some { cls := .type "tuple", dict := dd, data := .seq items2 n2, slots := sl } ∧ R (.ok (.ret Value.none)) { s with heap := s.heap.update l (Obj.mapSeq fun x => x ++ items2), toks := s.toks }) :=
  .of_wp fun prog w A R s h => by
    obtain ⟨hp, g, d, tk, os⟩ := s; obtain ⟨hl, hb, h⟩ := h; have f1 := idx_int; have f2 := sub_tuple_tuple; have f3 := sub_list_list; have f4 := sub_tuple_list; have f5 := sub_list_tuple;
    have hz' : (items ++ items2).size ≤ sizeLine + 1 := by rw [Array.size_append]; exact hs2
    wp_walk using (wpAny_updateSeq hl rfl (hz := hs1) (_hz' := hz')), wpAny_loadPart' hl, wpAny_loadPart' hb; exact ⟨_, rfl, h⟩
end PySem.AutoSeq1
namespace DL
open PySem PySem.Spec PyProof.Rows L2
section
variable {X : Cx}
/-! ### slices -/
def cutL {α : Type} (xs : List α) (lo hi : Option Int) : List α := (xs.drop (HT.sIx xs.length 0 lo)).take (HT.sIx xs.length xs.length hi - HT.sIx xs.length 0 lo)
theorem RelDs.cut {K : PySem.W.Frag} {H : Hp} {ds : List D} {xs : List V} (h : RelDs K H ds xs) (lo hi : Option Int) : RelDs K H (cutL ds lo hi) (cutV xs lo hi) := by
  unfold cutL cutV
  rw [h.length]
  exact (h.drop _).take _
theorem cutL_whole {α : Type} {xs : List α} {lo hi : Option Int} (h : HT.sIx xs.length 0 lo = 0 ∧ HT.sIx xs.length xs.length hi = xs.length) : cutL xs lo hi = xs := by
  unfold cutL
  rw [h.1, h.2]
  simp
abbrev TOd := Sd → Gp → (Option Int → Gp → Prop) → Prop
def liftO (W : Wd) (t : TOd) : TO := fun σ H Q => ∃ σd G q, AbsS W H σ σd ∧ AbsH W H G ∧ t σd G q ∧ ∀ o H' G', Tk W.K H H' → AbsH W H' G' → q o G' → Q o H'
def dNoPart : TOd := fun _ G q => q none G
def dPart (t : TD) : TOd := fun σ G q => t σ G fun d G1 => isI d fun i => q (some i) G1
abbrev QO (X : Cx) (e : Option Expr) (t : TOd) : Prop := PO X e (liftO (wd X) t)
theorem PO.imp {e : Option Expr} {t t' : TO} (h : PO X e t) (i : ∀ σ H Q, t' σ H Q → t σ H Q) : PO X e t' := ⟨fun pins s σ H Q I q => h.run pins s σ H Q I (i σ H Q q)⟩
theorem qo_none : QO X none dNoPart := PO.imp po_none fun σ H Q ⟨σd, G, q, hS, hG, h, hw⟩ => hw none H G Tk.refl hG h
theorem qo_some {e : Expr} {t : TD} (h : QE X e t) : QO X (some e) (dPart t) := PO.imp (po_some h) fun σ H Q ⟨σd, G, q, hS, hG, h, hw⟩ => ⟨σd, G, _, hS, hG, h, fun v H1 d G1 tk hG1 r h1 => by
  obtain ⟨i, rfl, rfl, h2⟩ := isI_of h1 r
  exact ⟨i, rfl, hw _ H1 G1 tk hG1 h2⟩⟩
def rSl : D → Option Int → Option Int → Gp → QD → Prop := fun d lo hi G q => match d with
  | .tup ds => q (.tup (cutL ds lo hi)) G
  | .ref a => match G a with
    | some (.lst ds) => newO (.lst (cutL ds lo hi)) q G
    | some (.rol ds) => newO (.lst (cutL ds lo hi)) q G
    | _ => False
  | .str z => z.length ≤ sizeLine ∧ q (.str (cutS z lo hi)) G
  | _ => False
theorem sl_d : SlR X (fun x lo hi H Q => ∃ d G q, RelD X.K H d x ∧ AbsH (wd X) H G ∧ rSl d lo hi G q ∧ Wish (wd X) H q Q) := by
  intro pins s σ H x v vl vu lo hi sl Q I rx hs pl pu h
  obtain ⟨d, G, q, rd, hG, h, hw⟩ := h
  cases d with
  | tup ds =>
    obtain ⟨a, xs, rfl, hq, rr⟩ := rd
    refine sl_tupA pins s σ H _ v vl vu lo hi sl Q I rx hs pl pu ⟨a, xs, rfl, hq, fun z => ?_, fun _ p hp => new_tup hG hw (rr.cut lo hi) h hp⟩
    have h : q (.tup (cutL ds lo hi)) G := h
    rw [cutL_whole (by rw [← rr.length]; exact z)] at h
    exact hw _ H (.tup ds) G Tk.refl hG ⟨a, xs, rfl, hq, rr⟩ h
  | ref a =>
    obtain rfl : x = .ref a := rd
    have h : (match G a with
      | some (.lst ds) => newO (.lst (cutL ds lo hi)) q G
      | some (.rol ds) => newO (.lst (cutL ds lo hi)) q G
      | _ => False) := h
    cases ea : G a with
    | none => rw [ea] at h; exact h.elim
    | some m =>
      rw [ea] at h
      have hm := hG a m ea
      cases m with
      | lst ds =>
        obtain ⟨xs, e1, rr⟩ := hm
        exact sl_list pins s σ H _ v vl vu lo hi sl Q I rx hs pl pu ⟨a, xs, rfl, SqL.of e1, fun p hp => new_lst hG hw (rr.cut lo hi) h hp⟩
      | rol ds =>
        obtain ⟨xs, e1, rr⟩ := hm
        exact sl_list pins s σ H _ v vl vu lo hi sl Q I rx hs pl pu ⟨a, xs, rfl, .inl e1, fun p hp => new_lst hG hw (rr.cut lo hi) h hp⟩
      | _ => exact h.elim
  | str z =>
    obtain rfl : x = .str z := rd
    exact sl_str pins s σ H _ v vl vu lo hi sl Q I rx hs pl pu ⟨z, rfl, h.1, hw _ H (.str _) G Tk.refl hG rfl h.2⟩
  | _ => exact h.elim
def dSl (te : TD) (tl th : TOd) : TD := fun σ G q => te σ G fun d G1 => tl σ G1 fun l G2 => th σ G2 fun u G3 => rSl d l u G3 q
variable {e : Expr} {te : TD} {lo hi : Option Expr} {tl th : TOd} {pos p2 : Pos}
theorem qe_slice (he : QE X e te) (hl : QO X lo tl) (hu : QO X hi th) : QE X (.Subscript e (.Slice lo hi none p2) pos) (dSl te tl th) :=
  PE.imp (pe_slice sl_d he hl hu) fun σ H Q ⟨σd, G, q, hS, hG, h, hw⟩ => ⟨σd, G, _, hS, hG, h, fun v H1 d G1 t1 hG1 r1 h1 => ⟨σd, G1, _, hS.mono t1, hG1, h1, fun l H2 G2 t2 hG2 h2 => ⟨σd, G2, _, (hS.mono t1).mono t2, hG2, h2, fun u H3 G3 t3 hG3 h3 =>
    ⟨d, G3, q, (r1.mono t2).mono t3, hG3, h3, hw.mono ((t1.trans t2).trans t3)⟩⟩⟩⟩
/-- [::-1] of a list, of a tuple -/
def dRev (te : TD) : TD := fun σ G q => te σ G fun d G1 => match d with
  | .tup ds => q (.tup ds.reverse) G1
  | .ref a => match G1 a with
    | some (.lst ds) => newO (.lst ds.reverse) q G1
    | some (.rol ds) => newO (.lst ds.reverse) q G1
    | _ => False
  | _ => False
theorem Vals.rev {xs : List V} {us : List Value} (h : Vals xs us) : Vals xs.reverse us.reverse := h.reverse
theorem qe_rev {k : Nat} {p1 p3 : Pos} (he : QE X e te) : QE X (.Subscript e (.Slice none none (some (.UnaryOp .USub (.Constant (.int 1) k p1) p2)) p3) pos) (dRev te) := by
  refine ⟨fun pins s σ H Q I h => ?_⟩
  obtain ⟨σd, G, q, hS, hG, h, hw⟩ := h
  refine Subscript_ (thn (he.run pins s σ H (fun x H1 => ∃ d G1, Tk X.K H H1 ∧ AbsH (wd X) H1 G1 ∧ RelD X.K H1 d x ∧ match d with
    | .tup ds => q (.tup ds.reverse) G1
    | .ref a => match G1 a with
      | some (.lst ds) => newO (.lst ds.reverse) q G1
      | some (.rol ds) => newO (.lst ds.reverse) q G1
      | _ => False
    | _ => False) I ⟨σd, G, _, hS, hG, h, fun x H1 d G1 tk hG1 rd h1 => ⟨d, G1, tk, hG1, rd, h1⟩⟩) fun v s1 ⟨x, H1, I1, r1, d, G1, tk, hG1, rd, q1⟩ => ?_)
  have hw1 := hw.mono tk
  have hst : PO X (some (.UnaryOp .USub (.Constant (.int 1) k p1) p2)) (tPart (tUn (rU fun i => .int (-i)) (tC (.int 1)))) := po_some (pe_un un_neg pe_int)
  refine wpAny_Slice (thn (po_none.run pins s1 σ H1 (fun o H2 => o = none ∧ H2 = H1) I1 ⟨rfl, rfl⟩) fun vl s2 ⟨l, H2, I2, pl, el, e2⟩ => ?_)
  subst el e2
  refine thn (po_none.run pins s2 σ H2 (fun o H3 => o = none ∧ H3 = H2) I2 ⟨rfl, rfl⟩) fun vu s3 ⟨u, H3, I3, pu, eu, e3⟩ => ?_
  subst eu e3
  refine thn (hst.run pins s3 σ H3 (fun o H4 => o = some (-1) ∧ H4 = H3) I3 ⟨1, rfl, -1, rfl, rfl, rfl⟩) fun vs s4 ⟨o, H4, I4, ps, eo, e4⟩ => ?_
  subst eo e4
  have I5 : Inv X pins σ H4 { s4 with heap := s4.heap.push { cls := .type "slice", data := .fields #[vl, vu, vs] } } := I4.kept (t' := s4.toks) fun b ob q => Heap.get?_push_of_some _ q
  have lst : ∀ a ds, (∃ xs, SqL X.K H4 a xs ∧ RelDs X.K H4 ds xs) → x = .ref a → newO (.lst ds.reverse) q G1 → wpAny (model X.prog X.w) X.A (subscriptTail e (.Slice none none (some (.UnaryOp .USub (.Constant (.int 1) k p1) p2)) p3) v (.ref s4.heap.objs.size)) (EP X pins σ Q) X.xe { s4 with heap := s4.heap.push { cls := .type "slice", data := .fields #[vl, vu, vs] } } := by
    intro a ds hx ex hq
    obtain ⟨xs, hx, rr⟩ := hx
    subst ex
    cases r1
    obtain ⟨its, r, ht, hz⟩ := I5.list hx
    have hlen := r.length
    refine tail_any (ops := [.ref a, .ref s4.heap.objs.size]) ht.isList.typeIs (PySem.slot_list_getitem.lookup) ?_ (by with_unfolding_all rfl)
    refine wpAny_getItem_list_slice ht.isList (Heap.IsSliceOf.new _ vl vu vs) pl pu ps (by decide) ?_ (by rw [List.size_toArray]; omega)
    rw [PySem.W.krv_pick]
    refine ⟨.ref _, _, I5.laid (t' := s4.toks) (o := .lst xs.reverse) (fun b ob q => Heap.get?_push_of_some _ q) (Nat.le_refl _) ?_, rfl, new_lst hG1 hw1 rr.reverse hq (I5.hok.fresh (Nat.le_refl _))⟩
    exact ⟨by rw [List.length_reverse]; exact hz, _, 0, Vals.rev r, Heap.get?_push_size _ rfl⟩
  show wpAny (model X.prog X.w) X.A (subscriptTail e (.Slice none none (some (.UnaryOp .USub (.Constant (.int 1) k p1) p2)) p3) v (.ref s4.heap.objs.size)) (EP X pins σ Q) X.xe { s4 with heap := s4.heap.push { cls := .type "slice", data := .fields #[vl, vu, vs] } }
  cases d with
  | tup ds =>
    obtain ⟨a, xs, rfl, hx, rr⟩ := rd
    cases r1
    obtain ⟨its, r, ht, hz⟩ := I5.tuple hx
    have hlen := r.length
    refine tail_any (ops := [.ref a, .ref s4.heap.objs.size]) ht.typeIs (PyProof.Rows.slot_tuple_getitem.lookup) ?_ (by with_unfolding_all rfl)
    cases pl
    cases pu
    cases ps
    refine dl_getItem_tuple_rev ht (Heap.IsSliceOf.new _ _ _ _) ?_ (by rw [List.size_toArray]; omega)
    refine ⟨.ref _, _, I5.laid (t' := s4.toks) (o := .tup xs.reverse) (fun b ob q => Heap.get?_push_of_some _ q) (Nat.le_refl _) ?_, rfl, new_tup hG1 hw1 rr.reverse q1 (I5.hok.fresh (Nat.le_refl _))⟩
    exact ⟨by rw [List.length_reverse]; exact hz, its.reverse, Vals.rev r, _, Heap.get?_push_size _ rfl, rfl, 0, rfl⟩
  | ref a =>
    have q1 : (match G1 a with
      | some (.lst ds) => newO (.lst ds.reverse) q G1
      | some (.rol ds) => newO (.lst ds.reverse) q G1
      | _ => False) := q1
    cases ea : G1 a with
    | none => rw [ea] at q1; exact q1.elim
    | some m =>
      rw [ea] at q1
      have hm := hG1 a m ea
      cases m with
      | lst ds =>
        obtain ⟨xs, e1, rr⟩ := hm
        exact lst a ds ⟨xs, SqL.of e1, rr⟩ rd q1
      | rol ds =>
        obtain ⟨xs, e1, rr⟩ := hm
        exact lst a ds ⟨xs, .inl e1, rr⟩ rd q1
      | _ => exact q1.elim
  | _ => exact q1.elim
/-! ### extend by a list or a tuple -/
def rExtendA : RMd := fun d es G q => arg1 es fun e => lstK d G fun a ds => match e with
  | .tup zs => ds.length + zs.length ≤ sizeLine ∧ q .non (gup G a (.lst (ds ++ zs)))
  | e => lstK e G fun _ zs => ds.length + zs.length ≤ sizeLine ∧ q .non (gup G a (.lst (ds ++ zs)))
theorem mtd_extendA : MtR X "list.extend" (liftM (wd X) rExtendA) := by
  intro pins s σ H x vs v us Q I rx rv h
  obtain ⟨d, ds, G, q, rd, rr, hG, h, hw⟩ := h
  obtain ⟨e, y, rfl, rfl, re, h⟩ := arg1_of h rr
  obtain ⟨a, es, xs, rfl, rfl, ea, e1, r1, h⟩ := lstK_of h rd hG
  have hs : sizeLine = 16777216 := sizeLine_eq
  have lst : (lstK e G fun _ zs => es.length + zs.length ≤ sizeLine ∧ q .non (gup G a (.lst (es ++ zs)))) → wpAny (model X.prog X.w) X.A (call (.builtin "list.extend") (v :: us)) (EP X pins σ Q) X.xe s := fun h => by
    obtain ⟨b, zs, ys, rfl, rfl, eb, e2, r2, h1, h2⟩ := lstK_of h re hG
    obtain ⟨tk, hG'⟩ := set_lst (ds := es ++ zs) hG e1 (r1.append r2)
    exact mt_extend pins s σ H _ _ v us Q I rx rv ⟨a, b, xs, ys, rfl, rfl, e1, e2, by rw [r1.length, r2.length]; exact h1, hw _ _ .non _ tk hG' rfl h2⟩
  cases e with
  | tup zs =>
    obtain ⟨h1, h2⟩ : es.length + zs.length ≤ sizeLine ∧ q .non (gup G a (.lst (es ++ zs))) := h
    cases rx
    obtain ⟨u, rfl, ru⟩ := rv.one
    obtain ⟨z, its, n, r, hl, e⟩ := I.lstM e1
    have hlen := r1.length
    obtain ⟨b, ys, rfl, hq, rz⟩ := re
    cases ru
    obtain ⟨its2, r2, ⟨⟨cls, dd, data, slo⟩, ho, hc, n2, hd⟩, hz2⟩ := I.tuple hq
    simp only at hc hd
    subst hc hd
    have hl2 := r2.length
    have hly := rz.length
    obtain ⟨tk, hG'⟩ := set_lst (ds := es ++ zs) hG e1 (r1.append rz)
    refine call_meets PySem.F.slot_list_extend ⟨_, e, rfl⟩ PySem.F.entry_list_extend (PySem.F.args_list_extend_2 _ _) (PySem.AutoSeq1.dl_extend_tuple a its.toArray n b its2.toArray n2 dd slo ?_ ?_ ?_) ⟨e, ho, ?_⟩
    · rw [List.size_toArray, List.size_toArray, notLongL (by omega)]
      simp
    · rw [List.size_toArray]; omega
    · rw [List.size_toArray, List.size_toArray]; omega
    · refine ⟨.non, _, I.lset (its' := its ++ its2) e1 e (by simp) (r.append r2) (by rw [List.length_append]; omega), rfl, hw _ _ .non _ tk hG' rfl h2⟩
  | ref b => exact lst h
  | _ => exact (show False from h).elim
/-! ### == of data -/
mutual
def dat : D → Option PyData
  | .non => some .none
  | .bl b => some (.bool b)
  | .int i => some (.int i)
  | .str x => some (.str x)
  | .tup ds => (dats ds).map .tuple
  | .ref _ => none
def dats : List D → Option (List PyData)
  | [] => some []
  | d :: ds => match dat d, dats ds with
    | some p, some ps => some (p :: ps)
    | _, _ => none
end
mutual
theorem dat_dp {K : PySem.W.Frag} {H : Hp} : ∀ {d : D} {v : V} {p : PyData}, RelD K H d v → dat d = some p → Dp K H v p
  | .non, v, p, r, e => by
    obtain rfl : v = .non := r
    cases e
    exact .non
  | .bl b, v, p, r, e => by
    obtain rfl : v = .bl b := r
    cases e
    exact .bl b
  | .int i, v, p, r, e => by
    obtain rfl : v = .int i := r
    cases e
    exact .int i
  | .str x, v, p, r, e => by
    obtain rfl : v = .str x := r
    cases e
    exact .str x
  | .ref a, v, p, r, e => by cases e
  | .tup ds, v, p, r, e => by
    obtain ⟨a, xs, rfl, hq, rr⟩ := r
    obtain ⟨ps, ep, rfl⟩ := Option.map_eq_some_iff.mp (show (dats ds).map PyData.tuple = some p from e)
    exact .tup hq (dats_dp rr ep)
theorem dats_dp {K : PySem.W.Frag} {H : Hp} : ∀ {ds : List D} {xs : List V} {ps : List PyData}, RelDs K H ds xs → dats ds = some ps → DpAll K H xs ps
  | [], xs, ps, r, e => by
    obtain rfl : xs = [] := r
    cases e
    exact .nil
  | d :: ds, xs, ps, r, e => by
    obtain ⟨x, xr, rfl, r1, r2⟩ := r
    have e' : (match dat d, dats ds with | some p, some ps => some (p :: ps) | _, _ => none) = some ps := e
    cases e1 : dat d with
    | none => rw [e1] at e'; cases e'
    | some p =>
      cases e2 : dats ds with
      | none => rw [e1, e2] at e'; cases e'
      | some pr =>
        rw [e1, e2] at e'
        cases e'
        exact .cons (dat_dp r1 e1) (dats_dp r2 e2)
end
/-- data, a list of data -/
def datG (G : Gp) (d : D) : Option PyData := match d with
  | .ref a => match G a with
    | some (.lst ds) => (dats ds).map .list
    | some (.rol ds) => (dats ds).map .list
    | _ => none
  | d => dat d
theorem datG_dp {H : Hp} {G : Gp} {d : D} {v : V} {p : PyData} (hG : AbsH (wd X) H G) (r : RelD X.K H d v) (e : datG G d = some p) : Dp X.K H v p := by
  cases d with
  | ref a =>
    obtain rfl : v = .ref a := r
    have e : (match G a with
      | some (.lst ds) => (dats ds).map PyData.list
      | some (.rol ds) => (dats ds).map PyData.list
      | _ => none) = some p := e
    cases ea : G a with
    | none => rw [ea] at e; cases e
    | some m =>
      rw [ea] at e
      have hm := hG a m ea
      cases m with
      | lst ds =>
        obtain ⟨xs, e1, rr⟩ := hm
        obtain ⟨ps, ep, rfl⟩ := Option.map_eq_some_iff.mp e
        exact .lst (SqL.of e1) (dats_dp rr ep)
      | rol ds =>
        obtain ⟨xs, e1, rr⟩ := hm
        obtain ⟨ps, ep, rfl⟩ := Option.map_eq_some_iff.mp e
        exact .lst (.inl e1) (dats_dp rr ep)
      | _ => cases e
  | _ => exact dat_dp r e
def atomV (d : D) : Option V := match d with
  | .non => some .non
  | .bl b => some (.bl b)
  | .int i => some (.int i)
  | .str x => some (.str x)
  | _ => none
theorem atomV_rel {K : PySem.W.Frag} {H : Hp} {d : D} {v x : V} (r : RelD K H d v) (e : atomV d = some x) : v = x := by
  cases d <;> first | (cases e; exact r) | cases e
def atomEq (d e : D) : Option Bool := match atomV d, atomV e with
  | some x, some y => if scal x y = true then some (decide (x = y)) else none
  | _, _ => none
/-- == (n: !=) -/
def rEqv (n : Bool) : R2d := fun d e G q => match atomEq d e with
  | some b => q (.bl (xor n b)) G
  | none => match datG G d, datG G e with
    | some a, some b => SeqAt.shaped a = true ∧ SeqAt.shaped b = true ∧ q (.bl (xor n (PyData.eqv a b))) G
    | _, _ => False
theorem atomEq_of {K : PySem.W.Frag} {H : Hp} {d e : D} {x y : V} {b : Bool} (rd : RelD K H d x) (re : RelD K H e y) (h : atomEq d e = some b) : scal x y = true ∧ b = decide (x = y) := by
  unfold atomEq at h
  split at h
  · rename_i x' y' e1 e2
    have := atomV_rel rd e1
    have := atomV_rel re e2
    subst x' y'
    split at h
    · cases h
      exact ⟨by assumption, rfl⟩
    · cases h
  · cases h
theorem od_eq (hu : X.A.units + 64 < cLine) : OpR X (compareOp .Eq) (lift2 (wd X) (rEqv false)) := by
  intro pins s σ H x y v u Q I rx ry h
  obtain ⟨d, e, G, q, rd, re, hG, h, hw⟩ := h
  unfold rEqv at h
  split at h
  · rename_i b eb
    obtain ⟨h1, rfl⟩ := atomEq_of rd re eb
    exact op_eq pins s σ H x y v u Q I rx ry ⟨h1, hw _ H (.bl _) G Tk.refl hG rfl (by rw [Bool.false_xor] at h; exact h)⟩
  · split at h
    · rename_i a b e1 e2
      exact op_eqD hu pins s σ H x y v u Q I rx ry ⟨a, b, datG_dp hG rd e1, datG_dp hG re e2, h.1, h.2.1, hw _ H (.bl _) G Tk.refl hG rfl (by have := h.2.2; rw [Bool.false_xor] at this; exact this)⟩
    · exact h.elim
theorem od_ne (hu : X.A.units + 64 < cLine) : OpR X (compareOp .NotEq) (lift2 (wd X) (rEqv true)) := by
  intro pins s σ H x y v u Q I rx ry h
  obtain ⟨d, e, G, q, rd, re, hG, h, hw⟩ := h
  unfold rEqv at h
  split at h
  · rename_i b eb
    obtain ⟨h1, rfl⟩ := atomEq_of rd re eb
    exact op_ne pins s σ H x y v u Q I rx ry ⟨h1, hw _ H (.bl _) G Tk.refl hG rfl (by rw [Bool.true_xor] at h; exact h)⟩
  · split at h
    · rename_i a b e1 e2
      exact op_neD hu pins s σ H x y v u Q I rx ry ⟨a, b, datG_dp hG rd e1, datG_dp hG re e2, h.1, h.2.1, hw _ H (.bl _) G Tk.refl hG rfl (by have := h.2.2; rw [Bool.true_xor] at this; exact this)⟩
    · exact h.elim
/-! ### in, not in: dicts, lists -/
def rIn (n : Bool) : R2d := fun e d G q => match d with
  | .ref a => match G a with
    | some (.dic kvs) => fits kvs e = true ∧ q (.bl (xor n (dget kvs e).isSome)) G
    | some (.rdc kvs) => fits kvs e = true ∧ q (.bl (xor n (dget kvs e).isSome)) G
    | some (.lst ds) => match dat e, dats ds with
      | some p, some ps => SeqAt.shaped p = true ∧ SeqAt.shaped (.list ps) = true ∧ q (.bl (xor n (ps.any fun z => PyData.eqv z p))) G
      | _, _ => False
    | _ => False
  | _ => False
theorem od_in (hu : X.A.units + 65 < cLine) : OpR X (compareOp .In) (lift2 (wd X) (rIn false)) := by
  intro pins s σ H x y v u Q I rx ry h
  obtain ⟨e, d, G, q, re, rd, hG, h, hw⟩ := h
  cases d with
  | ref a =>
    obtain rfl : y = .ref a := rd
    unfold rIn at h
    dsimp only at h
    split at h
    · rename_i kvs ea
      exact op_inDic (by omega) pins s σ H x _ v u Q I rx ry ⟨e, .ref a, G, q, re, rfl, hG, by show (match G a with | some (.dic kvs) => fits kvs e = true ∧ q (.bl (xor false (dget kvs e).isSome)) G | some (.rdc kvs) => fits kvs e = true ∧ q (.bl (xor false (dget kvs e).isSome)) G | _ => False); rw [ea]; exact h, hw⟩
    · rename_i kvs ea
      exact op_inDic (by omega) pins s σ H x _ v u Q I rx ry ⟨e, .ref a, G, q, re, rfl, hG, by show (match G a with | some (.dic kvs) => fits kvs e = true ∧ q (.bl (xor false (dget kvs e).isSome)) G | some (.rdc kvs) => fits kvs e = true ∧ q (.bl (xor false (dget kvs e).isSome)) G | _ => False); rw [ea]; exact h, hw⟩
    · rename_i ds ea
      split at h
      · rename_i p ps e1 e2
        obtain ⟨xs, e3, rr⟩ := hG a _ ea
        exact op_inD hu pins s σ H x _ v u Q I rx ry ⟨p, ps, dat_dp re e1, .lst (SqL.of e3) (dats_dp rr e2), h.1, h.2.1, hw _ H (.bl _) G Tk.refl hG rfl (by have := h.2.2; rw [Bool.false_xor] at this; exact this)⟩
      · exact h.elim
    · exact h.elim
  | _ => exact h.elim
theorem od_notIn (hu : X.A.units + 65 < cLine) : OpR X (compareOp .NotIn) (lift2 (wd X) (rIn true)) := by
  intro pins s σ H x y v u Q I rx ry h
  obtain ⟨e, d, G, q, re, rd, hG, h, hw⟩ := h
  cases d with
  | ref a =>
    obtain rfl : y = .ref a := rd
    unfold rIn at h
    dsimp only at h
    split at h
    · rename_i kvs ea
      exact op_notInDic (by omega) pins s σ H x _ v u Q I rx ry ⟨e, .ref a, G, q, re, rfl, hG, by show (match G a with | some (.dic kvs) => fits kvs e = true ∧ q (.bl (xor true (dget kvs e).isSome)) G | some (.rdc kvs) => fits kvs e = true ∧ q (.bl (xor true (dget kvs e).isSome)) G | _ => False); rw [ea]; exact h, hw⟩
    · rename_i kvs ea
      exact op_notInDic (by omega) pins s σ H x _ v u Q I rx ry ⟨e, .ref a, G, q, re, rfl, hG, by show (match G a with | some (.dic kvs) => fits kvs e = true ∧ q (.bl (xor true (dget kvs e).isSome)) G | some (.rdc kvs) => fits kvs e = true ∧ q (.bl (xor true (dget kvs e).isSome)) G | _ => False); rw [ea]; exact h, hw⟩
    · rename_i ds ea
      split at h
      · rename_i p ps e1 e2
        obtain ⟨xs, e3, rr⟩ := hG a _ ea
        exact op_notInD hu pins s σ H x _ v u Q I rx ry ⟨p, ps, dat_dp re e1, .lst (SqL.of e3) (dats_dp rr e2), h.1, h.2.1, hw _ H (.bl _) G Tk.refl hG rfl (by have := h.2.2; rw [Bool.true_xor] at this; exact this)⟩
      · exact h.elim
    · exact h.elim
  | _ => exact h.elim
/-- xs.index(x): the first place of an equal one -/
def rIndexL : RMd := fun d es G q => arg1 es fun e => lstK d G fun _ ds => match dat e, dats ds with
  | some p, some ps => SeqAt.shaped p = true ∧ SeqAt.shaped (.list ps) = true ∧ ps.findIdx (fun z => PyData.eqv z p) < ps.length ∧ q (.int (ps.findIdx fun z => PyData.eqv z p : Nat)) G
  | _, _ => False
theorem mtd_index (hu : X.A.units + 65 < cLine) : MtR X "list.index" (liftM (wd X) rIndexL) := by
  intro pins s σ H x vs v us Q I rx rv h
  obtain ⟨d, ds, G, q, rd, rr, hG, h, hw⟩ := h
  obtain ⟨e, y, rfl, rfl, re, h⟩ := arg1_of h rr
  obtain ⟨a, es, xs, rfl, rfl, ea, e1, r1, h⟩ := lstK_of h rd hG
  split at h
  · rename_i p ps e2 e3
    obtain ⟨h1, h2, h3, h4⟩ := h
    refine mt_indexD hu pins s σ H _ _ v us Q I rx rv ⟨a, y, p, ps, _, ps[ps.findIdx fun z => PyData.eqv z p], rfl, rfl, .lst (SqL.of e1) (dats_dp r1 e3), dat_dp re e2, h2, h1, List.getElem?_eq_getElem h3, List.findIdx_getElem (w := h3), fun m z hm hz => ?_, hw _ H (.int _) G Tk.refl hG rfl h4⟩
    have := List.not_of_lt_findIdx hm
    obtain ⟨hlt, ez⟩ := List.getElem?_eq_some_iff.mp hz
    rw [ez] at this
    simpa using this
  · exact h.elim
end
end DL
/-! ST2: sets whose members are tuples of any keys: search, add, set(list). -/
namespace DL
open PySem PySem.Spec PyProof.Rows L2
abbrev KN (P : Program) (w : World) (h : Heap) (k : NestedKey) (b : Addr) : Prop := (nestedKind P w).is h k b
abbrev nh (w : World) (k : NestedKey) : Int := k.hash w
section
variable {P : Program} {w : World} {A : Around} {E : Value → Shared → Prop} {s : Shared}
theorem kn_tup {h : Heap} {k : NestedKey} {b : Addr} (x : KN P w h k b) : ∃ o vs n ks, k = .tup ks ∧ h.get? b = some o ∧ o.cls = .type "tuple" ∧ o.data = .seq vs n ∧ NestedAll h ks vs.toList := by
  obtain ⟨x1, _⟩ := x
  cases x1 with
  | @tup _ o vs n ks h1 h2 h3 h4 => exact ⟨o, vs, n, ks, rfl, h1, h2, h3, h4⟩
theorem kn_keep {h h' : Heap} {k : NestedKey} {b : Addr} (x : KN P w h k b) (hk : ∀ c o, h.get? c = some o → h'.get? c = some o) : KN P w h' k b :=
  ⟨NestedIs.at (fun c o vs n hb hc => hk c o hb) k _ x.1, x.2⟩
theorem kn_same {h h' : Heap} {k : NestedKey} {a b : Addr} {o : Obj} {es : Array (Int × Value)} {ep : Nat} {t : SetTable} (x : KN P w h k b) (ho : h.get? a = some o) (hd : o.data = .set es ep t) (hs : Heap.SameBut a h h') : KN P w h' k b :=
  ⟨NestedIs.at (fun c ob vs n hb hc => by
    refine (hs.2 c fun e => ?_).trans hb
    subst e
    rw [ho] at hb
    cases hb
    rw [hd] at hc
    cases hc) k _ x.1, x.2⟩
/-! ### what is asked of a key by the way -/
mutual
theorem ofA_key : ∀ (k : NestedKey) (v : Value) (n : Nat) (s : Shared) (Q : Bool → Shared → Prop), NestedIs s.heap k v → k.depth ≤ n → Q false s → wpAny (model P w) A (ofAClassStatement n v) Q E s
  | .none, _, n, s, Q, x, _, q => by cases x; cases n <;> exact wpAny_pure q
  | .num i, _, n, s, Q, x, _, q => by cases x <;> cases n <;> exact wpAny_pure q
  | .text y, _, n, s, Q, x, _, q => by cases x; cases n <;> exact wpAny_pure q
  | .tup ks, _, n, s, Q, x, hn, q => by
    cases x with
    | @tup a o vs m _ hg hc hd hk =>
      simp only [NestedKey.depth] at hn
      have hT : s.TypeIs (.ref a) "tuple" := ⟨o, hg, hc⟩
      cases n with
      | zero => omega
      | succ n =>
        unfold ofAClassStatement
        refine wpAny_bind (wpAny_typeOf hT ?_)
        dsimp only
        simp only [show (("tuple" : String) == "tuple") = true from by decide, if_true, Bool.not_true, Bool.false_eq_true, if_false]
        try refine wpAny_bind (wpAny_pure ?_)
        try simp only [Bool.not_true, Bool.false_eq_true, if_false]
        show wpAny _ _ (seqItems? (.ref a) >>= _) _ _ s
        refine wpAny_bind (wpAny_seqItems hg hd ?_)
        dsimp only
        refine wpAny_bind ?_
        show wpAny _ _ (forIn vs _ _) _ _ s
        rw [← Array.forIn_toList]
        refine wpAny_forIn_list _ (fun rest r s' => r.1 = none ∧ s' = s ∧ ∀ v ∈ rest, v ∈ vs.toList) _ ?_ ?_ _ _ ⟨rfl, rfl, fun v hv => hv⟩
        · rintro v rest r s' ⟨hr, rfl, hall⟩
          refine wpAny_bind (ofA_keys ks vs.toList n s' _ hk (by omega) v (hall v List.mem_cons_self) ?_)
          simp only [Bool.false_eq_true, if_false]
          exact wpAny_pure ⟨rfl, rfl, fun u hu' => hall u (List.mem_cons_of_mem _ hu')⟩
        · rintro ⟨r1, r2⟩ s' ⟨hr, rfl, _⟩
          simp only at hr
          subst hr
          exact wpAny_pure q
theorem ofA_keys : ∀ (ks : List NestedKey) (vs : List Value) (n : Nat) (s : Shared) (Q : Bool → Shared → Prop), NestedAll s.heap ks vs → NestedKey.depthAll ks ≤ n → ∀ v ∈ vs, Q false s → wpAny (model P w) A (ofAClassStatement n v) Q E s
  | [], _, n, s, Q, x, _, v, hv, q => by cases x; cases hv
  | k :: ks, _, n, s, Q, x, hn, v, hv, q => by
    cases x with
    | cons x1 x2 =>
      simp only [NestedKey.depthAll] at hn
      rcases List.mem_cons.mp hv with e | hv
      · rw [e]; exact ofA_key k _ n s Q x1 (by omega) q
      · exact ofA_keys ks _ n s Q x2 (by omega) v hv q
end
mutual
theorem hashBy_key : ∀ (k : NestedKey) (v : Value) (n : Nat) (s : Shared) (Q : Bool → Shared → Prop), NestedIs s.heap k v → (∀ b, Q b s) → wpAny (model P w) A (hashByValue n v) Q E s
  | .none, _, n, s, Q, x, q => by cases x; cases n <;> exact wpAny_pure (q _)
  | .num i, _, n, s, Q, x, q => by cases x <;> cases n <;> exact wpAny_pure (q _)
  | .text y, _, n, s, Q, x, q => by cases x; cases n <;> exact wpAny_pure (q _)
  | .tup ks, _, n, s, Q, x, q => by
    cases x with
    | @tup a o vs m _ hg hc hd hk =>
      have hT : s.TypeIs (.ref a) "tuple" := ⟨o, hg, hc⟩
      cases n with
      | zero => exact wpAny_pure (q _)
      | succ n =>
        unfold hashByValue
        refine wpAny_bind (wpAny_specialOf hT F.slot_tuple_hash.lookup ?_)
        show wpAny _ _ (seqItems? (.ref a) >>= _) _ _ s
        refine wpAny_bind (wpAny_seqItems hg hd ?_)
        refine wpAny_bind ?_
        show wpAny _ _ (forIn vs _ _) _ _ s
        rw [← Array.forIn_toList]
        refine wpAny_forIn_list _ (fun rest r s' => s' = s ∧ ∀ v ∈ rest, v ∈ vs.toList) _ ?_ ?_ _ _ ⟨rfl, fun v hv => hv⟩
        · rintro v rest r s' ⟨rfl, hall⟩
          refine wpAny_bind (hashBy_keys ks vs.toList n s' _ hk v (hall v List.mem_cons_self) fun b => ?_)
          cases b
          · simp only [Bool.not_false, if_true]
            exact wpAny_pure (wpAny_pure (q _))
          · simp only [Bool.not_true, Bool.false_eq_true, if_false]
            exact wpAny_pure ⟨rfl, fun u hu' => hall u (List.mem_cons_of_mem _ hu')⟩
        · rintro ⟨r1, r2⟩ s' ⟨rfl, _⟩
          cases r1 <;> exact wpAny_pure (q _)
theorem hashBy_keys : ∀ (ks : List NestedKey) (vs : List Value) (n : Nat) (s : Shared) (Q : Bool → Shared → Prop), NestedAll s.heap ks vs → ∀ v ∈ vs, (∀ b, Q b s) → wpAny (model P w) A (hashByValue n v) Q E s
  | [], _, n, s, Q, x, v, hv, q => by cases x; cases hv
  | k :: ks, _, n, s, Q, x, v, hv, q => by
    cases x with
    | cons x1 x2 =>
      rcases List.mem_cons.mp hv with e | hv
      · rw [e]; exact hashBy_key k _ n s Q x1 q
      · exact hashBy_keys ks _ n s Q x2 v hv q
end
theorem seen_key {k : NestedKey} {b : Addr} {Q : Bool → Shared → Prop} (hk : KN P w s.heap k b) {ys : List Value} (hy : ∀ y ∈ ys, ∃ k' c, y = Value.ref c ∧ KN P w s.heap k' c) (h : Q false s) :
    wpAny (model P w) A (searchCouldBeSeen (.ref b) ys) Q E s := by
  unfold searchCouldBeSeen
  refine wpAny_bind ?_
  refine wpAny_forIn_list _ (fun rest r s' => r.1 = none ∧ s' = s ∧ ∀ y ∈ rest, ∃ k' c, y = Value.ref c ∧ KN P w s.heap k' c) _ ?_ ?_ _ _ ⟨rfl, rfl, hy⟩
  · rintro v rest r s' ⟨hr, rfl, hall⟩
    obtain ⟨k', c, rfl, hc⟩ := hall v List.mem_cons_self
    have more : ∀ y ∈ rest, ∃ k' c, y = Value.ref c ∧ KN P w s'.heap k' c := fun u hu' => hall u (List.mem_cons_of_mem _ hu')
    dsimp only
    by_cases hv : (b == c || (carriedByValue (.ref b) && carriedByValue (.ref c))) = true
    · exact wp_if_pos hv (wpAny_pure ⟨rfl, rfl, more⟩)
    · refine wp_if_neg hv (wpAny_bind ((nestedKind P w).quiet hk ?_))
      simp only [Bool.not_true, Bool.false_eq_true, if_false]
      refine wpAny_bind ((nestedKind P w).quiet hc ?_)
      simp only [Bool.not_true, Bool.false_eq_true, if_false]
      refine wpAny_bind (ofA_key k _ 8 s' _ hk.1 hk.2 ?_)
      simp only [Bool.false_eq_true, if_false]
      refine wpAny_bind (ofA_key k' _ 8 s' _ hc.1 hc.2 ?_)
      simp only [Bool.false_eq_true, if_false]
      exact wpAny_pure ⟨rfl, rfl, more⟩
  · rintro ⟨r1, r2⟩ s' ⟨hr, rfl, _⟩
    simp only at hr
    subst hr
    exact wpAny_pure h
/-! ### the set -/
def rowsN (w : World) (L : List (Addr × NestedKey)) : List (Int × Value) := L.map fun p => (nh w p.2, Value.ref p.1)
/-- the set at a, but for the tuples themselves -/
structure SetN0 (w : World) (h : Heap) (a : Addr) (L : List (Addr × NestedKey)) (es : Array (Int × Value)) (ep : Nat) (t : SetTable) : Prop where
  ob : ∃ o, h.get? a = some o ∧ o.ExactSet ∧ o.data = .set es ep t
  rows : es.toList = rowsN w L
  tab : TabOk t (L.map fun p => nh w p.2)
  nd : (L.map (·.2)).Nodup
  led : w.params.followText "set-order" = true ∨ t.led = true
  room : L.length * 5 < t.mask * 3
  few : L.length < 64
variable {a : Addr} {L : List (Addr × NestedKey)} {es : Array (Int × Value)} {ep : Nat} {t : SetTable}
theorem SetN0.size (R : SetN0 w s.heap a L es ep t) : es.size = L.length := by
  have h := congrArg List.length R.rows
  unfold rowsN at h
  rw [List.length_map] at h
  exact h
theorem SetN0.entry (R : SetN0 w s.heap a L es ep t) {i : Nat} {p : Addr × NestedKey} (h : L[i]? = some p) : es[i]? = some (nh w p.2, Value.ref p.1) := by
  rw [show es[i]? = es.toList[i]? from Array.getElem?_toList.symm, R.rows]
  unfold rowsN
  rw [List.getElem?_map, h]
  rfl
theorem SetN0.fits (R : SetN0 w s.heap a L es ep t) : t.fits es.size = true := by
  have h1 := R.tab.sz
  have h2 := R.room
  rw [List.length_map] at h1
  unfold SetTable.fits SetTable.fill
  rw [R.tab.dm, R.size, h1]
  simp
  omega
theorem SetN0.keep {h h' : Heap} (R : SetN0 w h a L es ep t) (ha : ∀ o, h.get? a = some o → h'.get? a = some o) : SetN0 w h' a L es ep t := by
  obtain ⟨o, ho, r⟩ := R.ob
  exact ⟨⟨o, ha o ho, r⟩, R.rows, R.tab, R.nd, R.led, R.room, R.few⟩
abbrev wst (m : Nat) (h : Int) : SetTable.Probe := runAt m (SetTable.bits h % (m + 1)) (SetTable.bits h)
theorem nth_dummy {m : Nat} : ∀ (n : Nat) (p : SetTable.Probe), p.dummy = none → (nth m p n).dummy = none
  | 0, _, h => h
  | n + 1, p, h => nth_dummy n (adv m p) (by unfold adv; split <;> exact h)
/-- the search from the c-th step of the way on -/
theorem look_from (R : SetN0 w s.heap a L es ep t) (tup : ∀ p ∈ L, KN P w s.heap p.2 p.1) {x : Addr} {k : NestedKey} (hx : KN P w s.heap k x) (hu : A.units + 8 < cLine) {N : Nat} (hNf : N < 10 * SetTable.turns t.mask)
    (hN : way t.mask (nh w k) N ∉ t.place.toList) (hNb : ∀ c, c < N → way t.mask (nh w k) c ∈ t.place.toList) {Q : SetFound → Shared → Prop}
    (hin : k ∈ L.map (·.2) → Q (.there none) s) (hout : k ∉ L.map (·.2) → Q (.free (way t.mask (nh w k) N) false) s) :
    ∀ (f c : Nat) (stand : Option SetTable.Probe), stand.getD (t.probeStart (nh w k)) = nth t.mask (wst t.mask (nh w k)) c → c ≤ N → N - c < f →
      (∀ (i : Nat) p, L[i]? = some p → p.2 = k → ∃ d, c ≤ d ∧ d < N ∧ t.place.toList[i]? = some (way t.mask (nh w k) d)) →
      wpAny (model P w) A (setSearchFrom a (.ref x) (nh w k) true f stand) Q E s
  | 0, c, stand, _, _, hf, _ => absurd hf (Nat.not_lt_zero _)
  | f + 1, c, stand, hst, hc, hf, hre => by
    obtain ⟨o, ho, hex, hd⟩ := R.ob
    have gw : ¬ t.gaveWay = true := by
      unfold SetTable.gaveWay
      rw [mask_odd R.tab.mok]
      decide
    rw [setSearchFrom_succ]
    refine wpAny_bind (wpAny_setState_of ho hd R.fits ?_)
    dsimp only
    refine wp_if_neg gw ?_
    try refine wpAny_bind (wpAny_pure ?_)
    have sh : ∀ q, nth t.mask (nth t.mask (wst t.mask (nh w k)) c) q = nth t.mask (wst t.mask (nh w k)) (c + q) := fun q => (nth_add t.mask c _ q).symm
    have sj : ∀ q, (nth t.mask (nth t.mask (wst t.mask (nh w k)) c) q).j = way t.mask (nh w k) (c + q) := fun q => congrArg SetTable.Probe.j (sh q)
    have hat : ∀ (i : Nat) p, L[i]? = some p → (es[i]?.map (·.1)).getD 0 = nh w p.2 := fun i p hp => by
      rw [R.entry hp]
      rfl
    rcases go_spec t R.tab.ris R.tab.dm (fun i => (es[i]?.map (·.1)).getD 0) (nh w k) (10 * SetTable.turns t.mask) (N - c) (nth t.mask (wst t.mask (nh w k)) c) (nth_dummy c _ rfl) (by omega)
      (fun q hq => by rw [sj]; exact hNb (c + q) (by omega)) (by rw [sj, show c + (N - c) = N by omega]; exact hN) with ⟨q, i, hq, hi, hh, hno, hpr⟩ | ⟨hno, hpr⟩
    · rw [sj] at hi
      have hpr2 : t.probe (fun i => (es[i]?.map (·.1)).getD 0) (nh w k) (stand.getD (t.probeStart (nh w k))) = some (.candidate (way t.mask (nh w k) (c + q)) i (nth t.mask (wst t.mask (nh w k)) (c + (q + 1)))) := by
        rw [hst, ← sj, ← sh]
        exact hpr
      rw [hpr2]
      dsimp only
      have hil : i < L.length := by
        have h1 := (List.getElem?_eq_some_iff.mp hi).1
        have h2 := R.tab.sz
        rw [List.length_map] at h2
        rw [Array.length_toList] at h1
        omega
      obtain ⟨p, hp⟩ : ∃ p, L[i]? = some p := ⟨_, List.getElem?_eq_getElem hil⟩
      have hmem : p ∈ L := List.mem_of_getElem? hp
      have rest : wpAny (model P w) A (searchRest a (.ref x) (nh w k) true f es t (way t.mask (nh w k) (c + q)) i (nth t.mask (wst t.mask (nh w k)) (c + (q + 1)))) Q E s := by
        unfold searchRest
        rw [R.entry hp]
        dsimp only
        refine wpAny_bind (wpAny_holding ((nestedKind P w).eqBool hu (tup p hmem) hx ?_))
        refine wpAny_bind (wpAny_setState_of ho hd R.fits ?_)
        dsimp only
        by_cases hkk : p.2 = k
        · exact wp_if_pos (by simp [hkk]) (wpAny_pure (hin (List.mem_map.mpr ⟨p, hmem, hkk⟩)))
        · refine wp_if_neg (by simp [hkk]) ?_
          try refine wpAny_bind (wpAny_pure ?_)
          rw [sameMem]
          dsimp only
          have hsl : t.slot (way t.mask (nh w k) (c + q)) = .live i := L2.slot_live R.tab.ris hi
          simp only [if_true, hsl, R.entry hp]
          refine wpAny_bind (wpAny_isSame_ref_self (wpAny_bind (wpAny_pure ?_)))
          simp only [if_true]
          refine wp_if_neg (by simp [hkk]) ?_
          refine look_from R tup hx hu hNf hN hNb hin hout f (c + (q + 1)) _ rfl (by omega) (by omega) fun i0 p0 h0 hk0 => ?_
          obtain ⟨d, a1, a2, a3⟩ := hre i0 p0 h0 hk0
          refine ⟨d, ?_, a2, a3⟩
          rcases Nat.lt_trichotomy d (c + q) with z | z | z
          · exfalso
            exact hno (d - c) i0 (by omega) (by rw [sj, show c + (d - c) = d by omega]; exact a3) ((hat i0 p0 h0).trans (congrArg (nh w) hk0))
          · exfalso
            rw [z] at a3
            have s0 := L2.slot_live R.tab.ris a3
            rw [hsl] at s0
            injection s0 with s0
            rw [← s0, hp] at h0
            exact hkk ((congrArg Prod.snd (Option.some.inj h0)).trans hk0)
          · omega
      by_cases hl : t.led = true
      · refine wp_if_neg (by simp [hl]) ?_
        try refine wpAny_bind (wpAny_pure ?_)
        exact rest
      · refine wp_if_pos (by simp [hl]) (wpAny_bind (seen_key hx (fun y hy => ?_) ?_))
        · obtain ⟨e, he, ee⟩ := List.mem_map.mp hy
          have he1 : e ∈ es ∧ e.1 = nh w k := by simpa using he
          have he2 : e ∈ es.toList := by simpa using he1.1
          rw [R.rows] at he2
          obtain ⟨p2, hp2, e2⟩ := List.mem_map.mp he2
          exact ⟨p2.2, p2.1, by rw [← ee, ← e2], tup p2 hp2⟩
        · refine wp_if_neg (by decide) ?_
          try refine wpAny_bind (wpAny_pure ?_)
          exact rest
    · have hpr2 : t.probe (fun i => (es[i]?.map (·.1)).getD 0) (nh w k) (stand.getD (t.probeStart (nh w k))) = some (.empty (way t.mask (nh w k) N) none) := by
        rw [hst, show way t.mask (nh w k) N = (nth t.mask (nth t.mask (wst t.mask (nh w k)) c) (N - c)).j by rw [sj, show c + (N - c) = N by omega]]
        exact hpr
      rw [hpr2]
      dsimp only
      refine wpAny_pure (hout fun hm => ?_)
      obtain ⟨p0, h0, hk0⟩ := List.mem_map.mp hm
      obtain ⟨i0, e0⟩ := List.mem_iff_getElem?.mp h0
      obtain ⟨d, a1, a2, a3⟩ := hre i0 p0 e0 hk0
      exact hno (d - c) i0 (by omega) (by rw [sj, show c + (d - c) = d by omega]; exact a3) ((hat i0 p0 e0).trans (congrArg (nh w) hk0))
theorem look_at (R : SetN0 w s.heap a L es ep t) (tup : ∀ p ∈ L, KN P w s.heap p.2 p.1) {x : Addr} {k : NestedKey} (hx : KN P w s.heap k x) (hu : A.units + 8 < cLine) {Q : SetFound → Shared → Prop}
    (hin : k ∈ L.map (·.2) → Q (.there none) s)
    (hout : ∀ N, k ∉ L.map (·.2) → way t.mask (nh w k) N ∉ t.place.toList → (∀ c, c < N → way t.mask (nh w k) c ∈ t.place.toList) → Q (.free (way t.mask (nh w k) N) false) s) :
    wpAny (model P w) A (setSearch a (.ref x) (nh w k) true) Q E s := by
  have hroom := R.room
  obtain ⟨N, hNf, hN, hNb⟩ := R.tab.first (by rw [List.length_map]; omega) (nh w k)
  have hbig : 10 * SetTable.turns t.mask ≤ 1420 := by
    unfold SetTable.turns
    rcases R.tab.mok with e | e | e <;> omega
  unfold setSearch
  refine look_from R tup hx hu hNf hN hNb hin (fun hn => hout N hn hN hNb) 100000 0 none rfl (Nat.zero_le _) (by omega) fun i p hp hk => ?_
  have hi : (L.map fun p => nh w p.2)[i]? = some (nh w k) := by
    rw [List.getElem?_map, hp, ← hk]
    rfl
  have hil : i < t.place.toList.length := by
    have h1 := (List.getElem?_eq_some_iff.mp hp).1
    have h2 := R.tab.sz
    rw [List.length_map] at h2
    rw [Array.length_toList]
    omega
  obtain ⟨d, hd, e⟩ := R.tab.before hN hi (List.getElem?_eq_getElem hil)
  exact ⟨d, Nat.zero_le _, hd, by rw [List.getElem?_eq_getElem hil, e]⟩
end
end DL
/-! ST3: sets whose members are tuples of any keys: add, set(list). -/
namespace DL
open PySem PySem.Spec PyProof.Rows L2
section
variable {P : Program} {w : World} {A : Around} {E : Value → Shared → Prop} {s : Shared}
theorem rowsN_ins (L : List (Addr × NestedKey)) (p : Nat) (x : Addr) (k : NestedKey) : rowsN w (L.take p ++ (x, k) :: L.drop p) = (rowsN w L).take p ++ (nh w k, Value.ref x) :: (rowsN w L).drop p := by
  simp only [rowsN, List.map_append, List.map_cons, List.map_take, List.map_drop]
/-- the rows in another order -/
theorem rowsN_order (L : List (Addr × NestedKey)) (es : Array (Int × Value)) (order : Array Nat) (hr : es.toList = rowsN w L) (hp : order.toList.Perm (List.range L.length)) :
    ∃ L2, (order.filterMap (es[·]?)).toList = rowsN w L2 ∧ L2.Perm L ∧ (L2.map fun p => nh w p.2) = order.toList.map fun i => (es.map (·.1)).getD i 0 := by
  have hsz : es.size = L.length := by
    have h := congrArg List.length hr
    unfold rowsN at h
    rw [List.length_map] at h
    exact h
  have hlt : ∀ i ∈ order.toList, i < L.length := fun i hi => List.mem_range.mp (hp.mem_iff.mp hi)
  let g : Nat → Addr × NestedKey := fun i => L.getD i (0, .none)
  have hg : ∀ i, i < L.length → L[i]? = some (g i) := fun i h => by
    show _ = some (L.getD i (0, .none))
    rw [List.getD_eq_getElem?_getD, List.getElem?_eq_getElem h]
    rfl
  have he : ∀ i, i < L.length → es[i]? = some (nh w (g i).2, Value.ref (g i).1) := fun i h => by
    rw [show es[i]? = es.toList[i]? from Array.getElem?_toList.symm, hr]
    unfold rowsN
    rw [List.getElem?_map, hg i h]
    rfl
  refine ⟨order.toList.map g, ?_, ?_, ?_⟩
  · rw [Array.toList_filterMap]
    unfold rowsN
    rw [List.map_map]
    generalize order.toList = l at hlt
    induction l with
    | nil => rfl
    | cons i l ih =>
      rw [List.filterMap_cons_some (he i (hlt i List.mem_cons_self)), ih fun j hj => hlt j (List.mem_cons_of_mem _ hj)]
      rfl
  · have h1 := hp.map g
    have h2 : (List.range L.length).map g = L := by
      apply List.ext_getElem?
      intro i
      rw [List.getElem?_map]
      by_cases hi : i < L.length
      · rw [List.getElem?_range hi, hg i hi]
        rfl
      · rw [List.getElem?_eq_none (by rw [List.length_range]; omega), List.getElem?_eq_none (by omega)]
        rfl
    rw [h2] at h1
    exact h1
  · rw [List.map_map]
    refine List.map_congr_left fun i hi => ?_
    have hi := hlt i hi
    show nh w (g i).2 = (es.map (·.1)).getD i 0
    have e5 : (es.map (·.1))[i]? = some (nh w (g i).2) := by
      rw [Array.getElem?_map, he i hi]
      rfl
    rw [Array.getD_eq_getD_getElem?, e5]
    rfl
variable {a : Addr} {L : List (Addr × NestedKey)} {es : Array (Int × Value)} {ep : Nat} {t : SetTable}
/-- the table laid anew -/
theorem relayN {o : Obj} (ho : s.heap.get? a = some o) (hex : o.ExactSet) (hd : o.data = .set es ep t) (hrows : es.toList = rowsN w L) (T : TabOk t (L.map fun p => nh w p.2)) (hfl : L.length ≤ t.mask)
    (nd : (L.map (·.2)).Nodup) (ld : w.params.followText "set-order" = true ∨ t.led = true) (few : L.length < 64) {wanted M : Nat}
    (hw : SetTable.sizeAbove wanted - 1 = M) (hM : MaskOk M) (hw2 : SetTable.sizeAbove wanted ≤ 128) (hn : L.length * 5 < M * 3) {Q : Unit → Shared → Prop}
    (hQ : ∀ h' L' es' ep' t', Heap.SameBut a s.heap h' → SetN0 w h' a L' es' ep' t' → L'.Perm L → Q () { s with heap := h' }) : wpAny (model P w) A (setRelay a wanted) Q E s := by
  have hsl : es.size = L.length := by
    have h := congrArg List.length hrows
    unfold rowsN at h
    rw [List.length_map] at h
    exact h
  have hfits : t.fits es.size = true := by
    have h1 := T.sz
    rw [List.length_map] at h1
    unfold SetTable.fits SetTable.fill
    rw [T.dm, hsl, h1]
    simp
    omega
  obtain ⟨t', order, e, hp, T', em, el, _, _⟩ := L2.relaid_ok t (hs := es.map (·.1)) (wanted := wanted) hw hM (by rw [Array.size_map, hsl]; omega)
  rw [Array.size_map, hsl] at hp
  obtain ⟨M2, r1, r2, r3⟩ := rowsN_order L es order hrows hp
  rw [← r3] at T'
  have hs2 : (order.filterMap (es[·]?)).size = es.size := by
    have h := congrArg List.length r1
    unfold rowsN at h
    rw [List.length_map, r2.length_eq] at h
    rw [hsl]
    exact h
  have hz : (order.filterMap (es[·]?)).size ≤ sizeLine := by rw [hs2, hsl, sizeLine_eq]; omega
  rw [setRelay_eq]
  refine wpAny_bind (wpAny_setState_of ho hd hfits ?_)
  dsimp only
  refine wp_if_neg (by rw [sizeLine_eq]; omega) ?_
  try refine wpAny_bind (wpAny_pure ?_)
  rw [e]
  dsimp only
  refine wpAny_bind (wp_if_neg (by rw [hs2]; simp) ?_)
  try refine wpAny_bind (wpAny_pure ?_)
  refine wpAny_pure ?_
  dsimp only
  have sb : Heap.SameBut a s.heap (s.heap.update a (Obj.putSet (order.filterMap (es[·]?)) t')) := Heap.SameBut.update ..
  exact wpAny_storeSet_of ho hd (hQ _ M2 (order.filterMap (es[·]?)) (ep + 1) t' sb ⟨⟨_, store_at ho hd, ⟨hex.1, hex.2.1, hex.2.2⟩, rfl⟩, r1, T', (r2.map (·.2)).nodup_iff.mpr nd, by rw [el]; exact ld, by rw [r2.length_eq, em]; exact hn, by rw [r2.length_eq]; exact few⟩ r2) hz
theorem plain_off {t : SetTable} {hs : List Int} (T : TabOk t hs) : TabOk { t with plain := false } hs := ⟨T.ris, T.dm, T.sz, T.mok, T.bd, T.reach⟩
/-- one more member -/
theorem addN (R : SetN0 w s.heap a L es ep t) (tup : ∀ p ∈ L, KN P w s.heap p.2 p.1) {x : Addr} {k : NestedKey} (hx : KN P w s.heap k x) (hu : A.units + 8 < cLine) (hfew : L.length + 1 < 64) {Q : Bool → Shared → Prop}
    (hQ : ∀ b h' L' es' ep' t', Heap.SameBut a s.heap h' → SetN0 w h' a L' es' ep' t' → (k ∈ L.map (·.2) → L' = L) → (k ∉ L.map (·.2) → L'.Perm ((x, k) :: L)) → Q b { s with heap := h' }) :
    wpAny (model P w) A (setAddHashed a (.ref x) (nh w k)) Q E s := by
  obtain ⟨o, ho, hex, hd⟩ := R.ob
  have hsl := R.size
  have hroom := R.room
  unfold setAddHashed
  refine wpAny_holding ?_
  rw [show (100000 : Nat) = 99999 + 1 from rfl, setAddHashedIn_succ]
  refine wpAny_bind (wpAny_setState_of ho hd R.fits ?_)
  dsimp only
  refine wp_if_neg (by simp [byScan, Value.scannable]) ?_
  try refine wpAny_bind (wpAny_pure ?_)
  refine wpAny_bind (look_at R tup hx hu (fun hm => ?_) fun N hm hN hb => ?_)
  · dsimp only
    exact wpAny_pure (hQ false s.heap L es ep t (Heap.SameBut.refl a s.heap) R (fun _ => rfl) fun z => absurd hm z)
  · dsimp only
    refine wpAny_bind (wpAny_setState_of ho hd R.fits ?_)
    dsimp only
    obtain ⟨q1, q2, q3, q4, q5, q6, q7, q8, q9⟩ := R.tab.put hN hb
    generalize hpt : t.put (way t.mask (nh w k) N) = pt at q1 q3 q4 q5 q6 q7 q8 q9 ⊢
    obtain ⟨t0, p⟩ := pt
    dsimp only at q1 q3 q4 q5 q6 q7 q8 q9 ⊢
    subst q1
    have hins : (SetTable.insertAt es (SetTable.below t.place (way t.mask (nh w k) N)) (nh w k, Value.ref x)).toList = rowsN w (L.take (SetTable.below t.place (way t.mask (nh w k) N)) ++ (x, k) :: L.drop (SetTable.below t.place (way t.mask (nh w k) N))) := by
      rw [SetTable.toList_insertAt, rowsN_ins, R.rows]
    generalize SetTable.below t.place (way t.mask (nh w k) N) = p at q2 q3 hins ⊢
    have pm := L2.put_perm L p (x, k)
    have hhs : (L.take p ++ (x, k) :: L.drop p).map (fun p => nh w p.2) = (L.map fun p => nh w p.2).take p ++ nh w k :: (L.map fun p => nh w p.2).drop p := by
      simp only [List.map_append, List.map_cons, List.map_take, List.map_drop]
    rw [← hhs] at q3
    generalize SetTable.insertAt es p (nh w k, Value.ref x) = es1 at hins ⊢
    generalize L.take p ++ (x, k) :: L.drop p = L1 at pm q3 hins
    have hlen : L1.length = L.length + 1 := pm.length_eq
    have nd1 : (L1.map (·.2)).Nodup := (pm.map (·.2)).nodup_iff.mpr (by rw [List.map_cons]; exact List.nodup_cons.mpr ⟨hm, R.nd⟩)
    have hes : es1.size = L.length + 1 := by
      have h := congrArg List.length hins
      unfold rowsN at h
      rw [List.length_map, hlen] at h
      exact h
    have main : ∀ t1 : SetTable, TabOk t1 (L1.map fun p => nh w p.2) → t1.mask = t.mask → t1.led = t.led → t1.fill = t0.fill → wpAny (model P w) A (do
        storeSet a es1 t1
        if (!false && t1.tooFull) = true then setRelay a (SetTable.grown (es.size + 1))
        pure true) Q E s := by
      intro t1 T1 m1 l1 f1
      refine wpAny_bind (wpAny_storeSet_of ho hd ?_ (by rw [hes, sizeLine_eq]; omega))
      have sb : Heap.SameBut a s.heap (s.heap.update a (Obj.putSet es1 t1)) := Heap.SameBut.update ..
      have ho1 := store_at (es' := es1) (t' := t1) ho hd
      generalize s.heap.update a (Obj.putSet es1 t1) = h1 at sb ho1 ⊢
      have ld1 : w.params.followText "set-order" = true ∨ t1.led = true := by rw [l1]; exact R.led
      have hfill : t1.fill = L.length + 1 := by rw [f1, q9, List.length_map]
      by_cases hf : t1.tooFull = true
      · have hfull : (L.length + 1) * 5 ≥ t1.mask * 3 := by
          have h := hf
          unfold SetTable.tooFull at h
          rw [decide_eq_true_eq, hfill] at h
          exact h
        rw [hsl]
        have two : (t.mask = 7 ∧ L.length = 4) ∨ (t.mask = 31 ∧ L.length = 18) := by
          rcases R.tab.mok with e | e | e
          · rw [m1, e] at hfull; rw [e] at hroom; exact .inl ⟨e, by omega⟩
          · rw [m1, e] at hfull; rw [e] at hroom; exact .inr ⟨e, by omega⟩
          · exfalso; rw [m1, e] at hfull; omega
        have go : ∀ M, SetTable.sizeAbove (SetTable.grown (L.length + 1)) - 1 = M → MaskOk M → SetTable.sizeAbove (SetTable.grown (L.length + 1)) ≤ 128 → (L.length + 1) * 5 < M * 3 →
            wpAny (model P w) A (setRelay a (SetTable.grown (L.length + 1))) (fun _ s' => wpAny (model P w) A (pure true) Q E s') E { s with heap := h1 } := fun M g1 g2 g3 g4 => by
          refine relayN (s := { s with heap := h1 }) ho1 ⟨hex.1, hex.2.1, hex.2.2⟩ rfl hins T1 (by rw [hlen, m1]; rcases two with ⟨e, e2⟩ | ⟨e, e2⟩ <;> omega) nd1 ld1 (by rw [hlen]; exact hfew) g1 g2 g3 (by rw [hlen]; exact g4) ?_
          intro h2 L2' es2 ep2 t2 sb2 R2 pm2
          exact wpAny_pure (hQ true h2 L2' es2 ep2 t2 (sb.trans sb2) R2 (fun z => absurd z hm) fun _ => pm2.trans pm)
        have hgo : wpAny (model P w) A (setRelay a (SetTable.grown (L.length + 1))) (fun _ s' => wpAny (model P w) A (pure true) Q E s') E { s with heap := h1 } := by
          rcases two with ⟨_, e2⟩ | ⟨_, e2⟩
          · exact go 31 (by rw [e2, size_20]) (.inr (.inl rfl)) (by rw [e2, size_20]; decide) (by omega)
          · exact go 127 (by rw [e2, size_76]) (.inr (.inr rfl)) (by rw [e2, size_76]; decide) (by omega)
        first
          | exact wpAny_bind (wp_if_pos (by simp [hf]) hgo)
          | exact wp_if_pos (by simp [hf]) (wpAny_bind hgo)
      · have last : wpAny (model P w) A (pure true) Q E { s with heap := h1 } := by
          refine wpAny_pure (hQ true h1 L1 es1 (ep + 1) t1 sb ⟨⟨_, ho1, ⟨hex.1, hex.2.1, hex.2.2⟩, rfl⟩, hins, T1, nd1, ld1, ?_, by rw [hlen]; exact hfew⟩ (fun z => absurd z hm) fun _ => pm)
          have h := hf
          unfold SetTable.tooFull at h
          rw [decide_eq_true_eq, hfill] at h
          rw [hlen]
          omega
        first
          | exact wp_if_neg (by simp [hf]) last
          | exact wpAny_bind (wp_if_neg (by simp [hf]) (wpAny_pure last))
    by_cases hpl : t0.plain = true
    · first
        | (refine wpAny_bind (wp_if_pos hpl (hashBy_key k _ 8 _ _ hx.1 fun b => ?_)))
        | refine wp_if_pos hpl (wpAny_bind (hashBy_key k _ 8 _ _ hx.1 fun b => ?_))
      cases b
      · simp only [Bool.false_eq_true, if_false]
        exact main { t0 with plain := false } (plain_off q3) q4 q5 rfl
      · simp only [if_true]
        exact main t0 q3 q4 q5 rfl
    · first
        | (refine wpAny_bind (wp_if_neg hpl (wpAny_pure ?_)))
        | refine wp_if_neg hpl (wpAny_bind (wpAny_pure ?_))
      simp only [if_true]
      exact main t0 q3 q4 q5 rfl
end
end DL
/-! ST4: set(list of tuples). -/
namespace DL
open PySem PySem.Spec PyProof.Rows L2
/-- what the set holds of the first i items -/
structure GotN (ks : List (Addr × NestedKey)) (i : Nat) (L : List (Addr × NestedKey)) : Prop where
  sub : ∀ p ∈ L, p ∈ ks.take i
  all : ∀ p ∈ ks.take i, p.2 ∈ L.map (·.2)
  len : L.length ≤ i
theorem GotN.zero (ks : List (Addr × NestedKey)) : GotN ks 0 [] := ⟨fun p h => (nomatch h), fun p h => (by rw [List.take_zero] at h; cases h), Nat.le_refl _⟩
theorem GotN.next {ks L L' : List (Addr × NestedKey)} {i : Nat} {x : Addr × NestedKey} (g : GotN ks i L) (h : ks[i]? = some x) (c1 : x.2 ∈ L.map (·.2) → L' = L) (c2 : x.2 ∉ L.map (·.2) → L'.Perm (x :: L)) : GotN ks (i + 1) L' := by
  have e := L2.take_next h
  by_cases hm : x.2 ∈ L.map (·.2)
  · rw [c1 hm]
    refine ⟨fun p hp => ?_, fun p hp => ?_, Nat.le_succ_of_le g.len⟩
    · rw [e]
      exact List.mem_append_left _ (g.sub p hp)
    · rw [e, List.mem_append, List.mem_singleton] at hp
      rcases hp with z | rfl
      · exact g.all p z
      · exact hm
  · have pm := c2 hm
    refine ⟨fun p hp => ?_, fun p hp => ?_, ?_⟩
    · rw [e, List.mem_append, List.mem_singleton]
      rcases List.mem_cons.mp (pm.mem_iff.mp hp) with z | z
      · exact .inr z
      · exact .inl (g.sub p z)
    · rw [(pm.map (·.2)).mem_iff, List.map_cons]
      rw [e, List.mem_append, List.mem_singleton] at hp
      rcases hp with z | rfl
      · exact List.mem_cons_of_mem _ (g.all p z)
      · exact List.mem_cons_self
    · have := g.len
      rw [pm.length_eq, List.length_cons]
      omega
section
variable {P : Program} {w : World} {A : Around} {E : Value → Shared → Prop} {s : Shared}
theorem setN_fresh {h : Heap} {a : Addr} (ho : h.get? a = some { cls := .type "set", dict := none, data := .set #[] 0 (.fresh 0 0 (!w.params.followText "set-order")) }) : SetN0 w h a [] #[] 0 (.fresh 0 0 (!w.params.followText "set-order")) where
  ob := ⟨_, ho, ⟨rfl, rfl, rfl⟩, rfl⟩
  rows := rfl
  tab := ⟨List.Pairwise.nil, rfl, rfl, .inl rfl, fun x hx => (nomatch hx), fun i h j hi => (by simp at hi)⟩
  nd := List.nodup_nil
  led := by
    show _ ∨ (!w.params.followText "set-order") = true
    cases w.params.followText "set-order"
    · exact .inr rfl
    · exact .inl rfl
  room := by
    show 0 * 5 < 7 * 3
    decide
  few := by
    show 0 < 64
    decide
/-- the loop of set.update -/
theorem updN {I : Addr} {fp wr : List Addr} {G : Array GenState → Array GenState → Prop} {n : Nat} {Pv : Nat → Value → Prop} {St : Nat → Shared → Prop} {R : Result → Shared → Prop}
    (W : WalksS P w A.in1 I fp wr G n Pv St) (S : Addr) (hSf : S ∉ fp) (ks : List (Addr × NestedKey)) (hn : n = ks.length) (hfew : ks.length < 64) (hval : ∀ i v, Pv i v → ∃ p, ks[i]? = some p ∧ v = .ref p.1)
    (h0 : Heap) (hk : ∀ p ∈ ks, KN P w h0 p.2 p.1) (hS0 : h0.get? S = none) (hw0 : ∀ b ∈ wr, h0.get? b = none) (hu : A.in1.units + 8 < cLine) :
    ∀ (m i : Nat) (s : Shared), n - i = m → i ≤ n → St i s → (∀ b o, h0.get? b = some o → s.heap.get? b = some o) → (∃ L es ep t, SetN0 w s.heap S L es ep t ∧ GotN ks i L) →
      (∀ s' L es ep t, Moved (S :: wr) G s s' → SetN0 w s'.heap S L es ep t → GotN ks n L → (∀ b o, h0.get? b = some o → s'.heap.get? b = some o) → R (.ok (.ret .none)) s') →
      codeAny (model P w) A (.builtin "set.update.loop" ⟨[.ref S, .ref I], []⟩) R s := by
  have hSw : S ∉ wr := fun h => hSf (W.sub _ h)
  have hsub : ∀ b ∈ wr, b ∈ S :: wr := fun b hb => List.mem_cons_of_mem _ hb
  have stay : ∀ {s s' : Shared}, Moved wr G s s' → (∀ b o, h0.get? b = some o → s.heap.get? b = some o) → ∀ b o, h0.get? b = some o → s'.heap.get? b = some o := fun hm hkp b o e =>
    hm.heap b o (fun hb => by rw [hw0 b hb] at e; cases e) (hkp b o e)
  intro m
  induction m with
  | zero =>
    intro i s hm hi hst hkp ⟨L, es, ep, t, hS, g⟩ hR
    have hin : i = n := by omega
    subst hin
    refine codeAny_builtin F.entry_set_update_loop ?_
    rw [Around.under_plainId F.plain_set_update_loop _]
    show wpAny _ A.in1 (pyNext (.ref I) >>= _) _ _ s
    refine wpAny_bind (W.done s _ _ hst fun s' mv => ?_)
    show wpAny _ A.in1 (ret Value.none) _ _ s'
    exact wpAny_pure (hR s' L es ep t (mv.mono hsub) (hS.keep fun o e => mv.heap S o hSw e) g (stay mv hkp))
  | succ m ih =>
    intro i s hm hi hst hkp ⟨L, es, ep, t, hS, g⟩ hR
    have hlt : i < n := by omega
    refine codeAny_builtin F.entry_set_update_loop ?_
    rw [Around.under_plainId F.plain_set_update_loop _]
    show wpAny _ A.in1 (pyNext (.ref I) >>= _) _ _ s
    refine wpAny_bind (W.item i s _ _ hlt hst fun v s' hP hst' mv => ?_)
    obtain ⟨p, hp, rfl⟩ := hval i v hP
    have hkp' := stay mv hkp
    have hS' : SetN0 w s'.heap S L es ep t := hS.keep fun o e => mv.heap S o hSw e
    have tup : ∀ q ∈ L, KN P w s'.heap q.2 q.1 := fun q hq => kn_keep (hk q (List.mem_of_mem_take (g.sub q hq))) hkp'
    have hx : KN P w s'.heap p.2 p.1 := kn_keep (hk p (List.mem_of_getElem? hp)) hkp'
    show wpAny _ A.in1 (holding [Value.ref p.1] (setAdd S (.ref p.1)) >>= _) _ _ s'
    refine wpAny_bind (wpAny_holding ?_)
    unfold setAdd
    refine wpAny_holding (wpAny_bind ((nestedKind P w).pyHash hu hx ?_))
    refine addN (s := { s' with toks := s'.toks + (nestedKind P w).draws p.2 }) hS' tup hx hu (by have := g.len; omega) fun b h' L' es' ep' t' hsb hS2 c1 c2 => ?_
    have hkp2 : ∀ b o, h0.get? b = some o → h'.get? b = some o := fun b o e => (hsb.2 b (fun z => by rw [z, hS0] at e; cases e)).trans (hkp' b o e)
    refine wpAny_pure ⟨plainId_quiet F.plain_set_update_loop _, ih (i + 1) _ (by omega) hlt (W.frame _ s' _ _ hst' (Nat.le_add_right _ _) fun b hb o e => ?_) hkp2 ⟨L', es', ep', t', hS2, g.next hp c1 c2⟩ fun s'' L2' es2 ep2 t2 mv2 hS3 g3 hkp3 => ?_⟩
    · rw [hsb.2 b (fun z : b = S => hSf (by rw [← z]; exact hb))]
      exact e
    · refine hR s'' L2' es2 ep2 t2 (Moved.trans W.gtrans ((mv.mono hsub).then_heap (Nat.le_add_right _ _) fun b o hb e => ?_) mv2) hS3 g3 hkp3
      rw [hsb.2 b (fun z : b = S => hb (by rw [z]; exact List.mem_cons_self))]
      exact e
set_option maxHeartbeats 3200000 in
/-- set(xs) -/
theorem setN_call {l : Addr} {items : Array Value} (ks : List (Addr × NestedKey)) {Q : Value → Shared → Prop} (hh : A.handled = none) (hl : s.heap.IsList l items) (hit : items.toList = ks.map fun p => Value.ref p.1)
    (hk : ∀ p ∈ ks, KN P w s.heap p.2 p.1) (hfew : ks.length < 64) (hu : A.units + 16 < cLine)
    (h : ∀ (h' : Heap) (tk : Nat) L es ep t, SetN0 w h' s.heap.objs.size L es ep t → GotN ks ks.length L → (∀ b o, s.heap.get? b = some o → h'.get? b = some o) → Q (.ref s.heap.objs.size) { s with heap := h', toks := tk }) :
    wpAny (model P w) A (call (.type "set") [.ref l]) Q E s := by
  have hisz : items.size = ks.length := by
    have q := congrArg List.length hit
    rw [List.length_map] at q
    exact q
  obtain ⟨c, tl, hmro⟩ := F.called_set.mro
  have hmade := F.called_set.made
  have hsub := F.called_set.sub
  refine wpAny_call (codeAny_of_tree ?_)
  show wpAny _ _ (callAny (.type "set") _) _ _ _
  refine wpAny_pure ⟨Code.quiet_builtin _ (by decide +kernel), codeAny_builtin F.entry_type_call ?_⟩
  rw [Around.under_plain (weight_type_call_type "set" [.ref l] []) rfl]
  have h1 := F.called_set.notType
  have h2 := F.called_set.canCreate
  have hct := F.typeCall_set_1 (.ref l)
  repeat (any_goals (first | assumption | wp_step))
  refine codeAny_mono (code_set_led1 (.ref l) (E := E) (Q₁ := fun obj s₁ => obj = .ref s.heap.objs.size ∧ s₁ = { s with heap := s.heap.push { cls := .type "set", dict := none, data := .set #[] 0 (.fresh 0 0 (!w.params.followText "set-order")) } }) ⟨rfl, rfl⟩) fun r s₁ hr => ?_
  cases r with
  | error e => exact hr
  | ok fl =>
    cases fl with
    | ret obj =>
      obtain ⟨rfl, rfl⟩ := hr
      have hS : (s.heap.push { cls := .type "set", dict := none, data := .set #[] 0 (.fresh 0 0 (!w.params.followText "set-order")) }).get? s.heap.objs.size = some { cls := .type "set", dict := none, data := .set #[] 0 (.fresh 0 0 (!w.params.followText "set-order")) } := Heap.get?_push_size _ rfl
      have hT : Shared.TypeIs { s with heap := s.heap.push { cls := .type "set", dict := none, data := .set #[] 0 (.fresh 0 0 (!w.params.followText "set-order")) } } (.ref s.heap.objs.size) "set" := ⟨_, hS, rfl⟩
      have hli := F.called_set.init.lookup
      have hbi := F.called_set.init.bind (.ref s.heap.objs.size)
      repeat (any_goals (first | assumption | wp_step))
      refine codeAny_mono (codeAny_call_builtin (R := wants (fun r s₂ => r = .none ∧ ∃ h' tk L es ep t, s₂ = { s with heap := h', toks := tk } ∧ SetN0 w h' s.heap.objs.size L es ep t ∧ GotN ks ks.length L ∧
          (∀ b o, s.heap.get? b = some o → h'.get? b = some o)) E) F.called_set.init.plain F.entry_set_init (check_set_init_1 hT ?_)) fun r₂ s₂ hr₂ => ?_
      · obtain ⟨⟨ocls, odict, odata, oslots⟩, hol, hcl, nl, hdl⟩ := hl
        simp only at hcl hdl
        subst hcl; subst hdl
        have hol' : (s.heap.push { cls := .type "set", dict := none, data := .set #[] 0 (.fresh 0 0 (!w.params.followText "set-order")) }).get? l = some { cls := .type "list", dict := odict, data := .seq items nl, slots := oslots } := Heap.get?_push_of_some _ hol
        have hsls := F.sub_list_set
        have hslf := F.sub_list_frozenset
        have hne : (Value.type "list" == Value.type "dict") = false := by decide
        have hl1 : (s.heap.push { cls := .type "set", dict := none, data := .set #[] 0 (.fresh 0 0 (!w.params.followText "set-order")) }).IsList l items := ⟨_, hol', rfl, nl, rfl⟩
        unfold Builtin.«set.__init__» noKeywords Builtin.Frozenset.updateFrom
        generalize hPI : pyIter = PI
        wp_walk
        subst hPI
        refine wpAny_pyIter_list hl1 ?_
        refine wpAny_bind (wpAny_runValue ?_)
        have hlS : l < s.heap.objs.size := Heap.lt_size hol
        have hh3 : A.in1.in1.in1.handled = none := by simp [hh]
        have hz1 : (s.heap.push { cls := .type "set", dict := none, data := .set #[] 0 (.fresh 0 0 (!w.params.followText "set-order")) }).objs.size = s.heap.objs.size + 1 := Heap.size_push ..
        have hneI : l ≠ (s.heap.push { cls := .type "set", dict := none, data := .set #[] 0 (.fresh 0 0 (!w.params.followText "set-order")) }).objs.size := by rw [hz1]; exact Nat.ne_of_lt (Nat.lt_succ_of_lt hlS)
        have hSf : s.heap.objs.size ∉ [(s.heap.push { cls := .type "set", dict := none, data := .set #[] 0 (.fresh 0 0 (!w.params.followText "set-order")) }).objs.size, l] := by
          rw [hz1]
          simp only [List.mem_cons, List.not_mem_nil, or_false, not_or]
          exact ⟨Nat.ne_of_lt (Nat.lt_succ_self _), Nat.ne_of_gt hlS⟩
        have hval : ∀ (i : Nat) (v : Value), items[i]? = some v → ∃ p, ks[i]? = some p ∧ v = .ref p.1 := fun i v hv => by
          have q : items.toList[i]? = some v := by rw [Array.getElem?_toList]; exact hv
          rw [hit, List.getElem?_map] at q
          obtain ⟨p, e1, e2⟩ := Option.map_eq_some_iff.mp q
          exact ⟨p, e1, e2.symm⟩
        have none_of : ∀ b, s.heap.objs.size ≤ b → s.heap.get? b = none := fun b hb => by
          cases q : s.heap.get? b with
          | none => rfl
          | some o => exact absurd (Nat.lt_of_lt_of_le (Heap.lt_size q) hb) (Nat.lt_irrefl _)
        refine updN ((Walks.list hh3 _ l hneI items).toS) s.heap.objs.size
          hSf ks hisz hfew hval s.heap hk (none_of _ (Nat.le_refl _)) (fun b hb => none_of b (by
            rw [List.mem_singleton.mp hb, hz1]
            exact Nat.le_succ _)) (by simp only [Around.in1_units]; omega) (items.size - 0) 0 _ (by omega) (Nat.zero_le _)
          ⟨⟨_, Heap.get?_push_size _ rfl, rfl, rfl⟩, (hl1.push _)⟩ (fun b o e => Heap.get?_push_of_some _ (Heap.get?_push_of_some _ e)) ⟨[], #[], 0, _, setN_fresh (Heap.get?_push_of_some _ hS), GotN.zero ks⟩ ?hR
        case hR =>
          intro s' L es ep t hm hS' g' hkp
          obtain ⟨h', g2, d', tk', os'⟩ := s'
          have eg : g2 = s.gens := hm.gens
          have ed : d' = s.drawn := hm.drawn
          have eo : os' = s.os := hm.os
          subst eg; subst ed; subst eo
          show wpAny _ _ _ _ _ _
          refine wpAny_pure ?_
          show wpAny _ _ (ret Value.none) _ _ _
          rw [hisz] at g'
          exact wpAny_pure ⟨rfl, h', tk', L, es, ep, t, rfl, hS', g', hkp⟩
      · cases r₂ with
        | error e => exact hr₂
        | ok fl₂ =>
          cases fl₂ with
          | ret r =>
            obtain ⟨rfl, h', tk, L, es, ep, t, rfl, hS', g', hk'⟩ := hr₂
            repeat (any_goals (first | assumption | wp_step))
            exact h _ _ _ _ _ _ hS' g' hk'
          | _ => exact hr₂.elim
    | _ => exact hr.elim
end
end DL
/-! ST5: sorted(set(xs)), len(set(xs)), over data. -/
namespace DL
open PySem PySem.Spec PyProof.Rows L2
open PySem.W (EachIs dataLe AllAlike Sortable)
def SetO (w : World) (a : Addr) (L : List (Addr × NestedKey)) : HO := .ext fun h => ∃ es ep t, SetN0 w h a L es ep t
theorem setO_new {P : Program} {w : World} {H : Hp} {h : Heap} {a : Addr} {L : List (Addr × NestedKey)} (R : ∃ es ep t, SetN0 w h a L es ep t) : ObjOk P w H h a (SetO w a L) := by
  refine ⟨R, ?_, fun h1 h2 p k => ?_⟩
  · obtain ⟨es, ep, t, R⟩ := R
    obtain ⟨o, ho, _⟩ := R.ob
    exact ⟨o, ho⟩
  · have ⟨es, ep, t, R'⟩ : ∃ es ep t, SetN0 w h1 a L es ep t := p
    exact ⟨es, ep, t, R'.keep k⟩
/-- the tuple at p as a key -/
def KeyV (K : PySem.W.Frag) (H : Hp) (p : Addr × NestedKey) : Prop := ∃ ds, RelD K H (.tup ds) (.ref p.1) ∧ keyOf (.tup ds) = some p.2 ∧ p.2.depth ≤ 8
theorem KeyV.kn {X : Cx} {pins : List (Addr × Obj)} {σ : L2.St} {H : Hp} {s : Shared} (I : Inv X pins σ H s) {p : Addr × NestedKey} (h : KeyV X.K H p) : KN X.prog X.w s.heap p.2 p.1 :=
  let ⟨_, r, e, hd⟩ := h
  tupKey I r e hd
theorem vals_refs {α : Type} {f : α → Addr} : ∀ {l : List α} {us : List Value}, Vals (l.map fun p => V.ref (f p)) us → us = l.map fun p => Value.ref (f p)
  | [], _, .nil => rfl
  | p :: l, _, .cons r t => by
    cases r
    rw [vals_refs t]
    rfl
section
variable {X : Cx}
def rSetN (X : Cx) : List V → Hp → VK → Prop := fun xs H Q => ∃ (l : Addr) (ks : List (Addr × NestedKey)), xs = [V.ref l] ∧ SqL X.K H l (ks.map fun p => V.ref p.1) ∧ (∀ p ∈ ks, KeyV X.K H p) ∧ ks.length < 64 ∧
  ∀ a L, H a = none → GotN ks ks.length L → (L.map (·.2)).Nodup → Q (.ref a) (upd H a (SetO X.w a L))
theorem cr_setN (hc : X.calm = true) (hu : X.A.units + 64 < cLine) : CallR X (.type "set") (rSetN X) := by
  intro pins s σ H xs us Q I r h
  obtain ⟨l, ks, rfl, hl, hk, hf, q⟩ := h
  rw [Vals.ref1 r]
  obtain ⟨its, rv, pl, hz⟩ := I.list hl
  have hn : H s.heap.objs.size = none := I.hok.fresh (Nat.le_refl _)
  refine setN_call (P := X.prog) (w := X.w) ks (I.ok.hd hc) pl.isList (by simpa using vals_refs rv) (fun p hp => (hk p hp).kn I) hf (by omega) fun h' tk L es ep t R g k => ?_
  exact ⟨.ref s.heap.objs.size, upd H s.heap.objs.size (SetO X.w s.heap.objs.size L), I.laid (t' := tk) k (Nat.le_refl _) (setO_new ⟨es, ep, t, R⟩), rfl, q _ L hn g R.nd⟩
/-- what may be sorted -/
def enc (d : D) : PyData := (dat d).getD .none
structure SortD (ds : List D) : Prop where
  dt : ∀ d ∈ ds, ∃ p, dat d = some p ∧ p.depth ≤ 16
  al : AllAlike (ds.map enc)
  so : Sortable (ds.map enc)
theorem SortD.perm {ds es : List D} (h : SortD ds) (p : es.Perm ds) : SortD es where
  dt := fun d hd => h.dt d (p.mem_iff.mp hd)
  al := fun d hd e he => h.al d ((p.map enc).mem_iff.mp hd) e ((p.map enc).mem_iff.mp he)
  so := h.so.imp (fun g d hd => g d ((p.map enc).mem_iff.mp hd)) fun g d hd => g d ((p.map enc).mem_iff.mp hd)
theorem SortD.sub {ds es : List D} (h : SortD ds) (p : ∀ d ∈ es, d ∈ ds) : SortD es := by
  have m : ∀ x ∈ es.map enc, x ∈ ds.map enc := fun x hx => by
    obtain ⟨d, hd, rfl⟩ := List.mem_map.mp hx
    exact List.mem_map.mpr ⟨d, p d hd, rfl⟩
  exact ⟨fun d hd => h.dt d (p d hd), fun d hd e he => h.al d (m d hd) e (m e he), h.so.imp (fun g d hd => g d (m d hd)) fun g d hd => g d (m d hd)⟩
abbrev IsD (K : PySem.W.Frag) (H : Hp) (v : Value) (d : D) : Prop := ∃ x, RelV x v ∧ RelD K H d x
theorem each_vals {K : PySem.W.Frag} {H : Hp} : ∀ {vs : List Value} {ds : List D}, EachIs (IsD K H) vs ds → ∃ xs, Vals xs vs ∧ RelDs K H ds xs
  | _, _, .nil => ⟨[], .nil, rfl⟩
  | _, _, .cons ⟨x, r1, r2⟩ t => by
    obtain ⟨xs, h1, h2⟩ := each_vals t
    exact ⟨x :: xs, .cons r1 h1, RelDs.cons r2 h2⟩
theorem vals_each {K : PySem.W.Frag} {H : Hp} : ∀ {vs : List Value} {ds : List D} {xs : List V}, Vals xs vs → RelDs K H ds xs → EachIs (IsD K H) vs ds
  | vs, [], xs, rv, r => by
    obtain rfl : xs = [] := r
    cases rv
    exact .nil
  | vs, d :: ds, xs, rv, r => by
    obtain ⟨x, xr, rfl, r1, r2⟩ := r
    cases rv with
    | cons h1 h2 => exact .cons ⟨x, h1, r1⟩ (vals_each h2 r2)
theorem each_imp {α β : Type} {R S : α → β → Prop} : ∀ {l : List α} {m : List β}, (∀ a b, a ∈ l → b ∈ m → R a b → S a b) → EachIs R l m → EachIs S l m
  | _, _, _, .nil => .nil
  | _, _, h, .cons r t => .cons (h _ _ List.mem_cons_self List.mem_cons_self r) (each_imp (fun a b ha hb => h a b (List.mem_cons_of_mem _ ha) (List.mem_cons_of_mem _ hb)) t)
theorem reads_of {pins : List (Addr × Obj)} {σ : L2.St} {H : Hp} {s : Shared} (I : Inv X pins σ H s) {ds : List D} {vs : List Value} (so : SortD ds) (e : EachIs (IsD X.K H) vs ds) : EachIs (fun v b => ∃ as, Reads s.heap v (enc b) as) vs ds :=
  each_imp (fun v d _ hd ⟨x, r1, r2⟩ => by
    obtain ⟨p, hp, _⟩ := so.dt d hd
    have : enc d = p := by unfold enc; rw [hp]; rfl
    rw [this]
    exact Dp.reads I p x v (dat_dp r2 hp) r1) e
theorem SortD.deep {ds : List D} (so : SortD ds) : ∀ d ∈ ds, (enc d).depth ≤ 16 := fun d hd => by
  obtain ⟨p, hp, h⟩ := so.dt d hd
  unfold enc
  rw [hp]
  exact h
theorem perm_refs {α : Type} {f : α → Value} : ∀ {vs : List Value} {L : List α}, vs.Perm (L.map f) → ∃ L' : List α, vs = L'.map f ∧ L'.Perm L
  | [], L, p => by
    have : L = [] := by
      have := p.length_eq
      rw [List.length_map] at this
      exact List.length_eq_zero_iff.mp this.symm
    exact ⟨[], rfl, by rw [this]⟩
  | v :: vs, L, p => by
    have hv : v ∈ L.map f := p.mem_iff.mp List.mem_cons_self
    obtain ⟨x, hx, rfl⟩ := List.mem_map.mp hv
    obtain ⟨l1, l2, rfl⟩ := List.append_of_mem hx
    have p2 : (f x :: vs).Perm (f x :: (l1 ++ l2).map f) := p.trans (by
      rw [List.map_append, List.map_cons, List.map_append]
      exact List.perm_middle)
    obtain ⟨L', e, p3⟩ := perm_refs ((List.perm_cons _).mp p2)
    exact ⟨x :: L', by rw [e]; rfl, (p3.cons x).trans List.perm_middle.symm⟩
mutual
theorem reads_flat {h : Heap} : ∀ {d : D} {v : Value} {p : PyData} {as : List Addr}, dat d = some p → Reads h v p as → as = []
  | .non, v, p, as, e, r => by cases e; cases r; rfl
  | .bl _, v, p, as, e, r => by cases e; cases r; rfl
  | .int _, v, p, as, e, r => by cases e; cases r; rfl
  | .str _, v, p, as, e, r => by cases e; cases r; rfl
  | .ref _, v, p, as, e, r => by cases e
  | .tup ds, v, p, as, e, r => by
    obtain ⟨ps, e1, rfl⟩ := Option.map_eq_some_iff.mp (show (dats ds).map PyData.tuple = some p from e)
    cases r with
    | tuple h1 h2 h3 h4 => exact readsAll_flat e1 h4
theorem readsAll_flat {h : Heap} : ∀ {ds : List D} {vs : List Value} {ps : List PyData} {as : List Addr}, dats ds = some ps → ReadsAll h vs ps as → as = []
  | [], vs, ps, as, e, r => by cases e; cases r; rfl
  | d :: ds, vs, ps, as, e, r => by
    have e' : (match dat d, dats ds with | some p, some ps => some (p :: ps) | _, _ => none) = some ps := e
    cases e1 : dat d with
    | none => rw [e1] at e'; cases e'
    | some p =>
      cases e2 : dats ds with
      | none => rw [e1, e2] at e'; cases e'
      | some pr =>
        rw [e1, e2] at e'
        cases e'
        cases r with
        | cons h1 h2 => rw [reads_flat e1 h1, readsAll_flat e2 h2, List.nil_append]
end
/-- sorted(set) -/
def rSortN (X : Cx) : List V → Hp → VK → Prop := fun vs H Q => ∃ (a : Addr) (L : List (Addr × NestedKey)) (g : Addr × NestedKey → D), vs = [V.ref a] ∧ H a = some (SetO X.w a L) ∧ (∀ p ∈ L, RelD X.K H (g p) (.ref p.1)) ∧ SortD (L.map g) ∧
  ∀ (rs : List D) (xs : List V) (p : Addr), rs.Perm (L.map g) → rs.Pairwise (fun a b => dataLe false enc a b = true) → RelDs X.K H rs xs → H p = none → Q (.ref p) (upd H p (.lst xs))
theorem dataLe_total : PySem.W.TotalLe (dataLe false enc) where
  trans := fun a b c h1 h2 => (PySem.W.sortLe_total (O := _) false _).trans a b c h1 h2
  total := fun a b => (PySem.W.sortLe_total (O := _) false _).total a b
theorem cr_sortN (hc : X.calm = true) (hu : X.A.units + 64 < cLine) : CallR X (.builtin "sorted") (rSortN X) := by
  intro pins s σ H vs us Q I r h
  obtain ⟨a, L, g, rfl, ha, hg, so, q⟩ := h
  have R0 : ∃ es ep t, SetN0 X.w s.heap a L es ep t := (I.hok a _ ha).1
  obtain ⟨es, ep, t, R⟩ := R0
  rw [Vals.ref1 r]
  obtain ⟨o, ho, hex, hd⟩ := R.ob
  have hsz := R.size
  have hfew := R.few
  refine Calls.call_function_entry kind_sorted plain_sorted entry_sorted (args_sorted1 _) ?_
  unfold Builtin.«sorted»
  refine wpAny_bind (m := checkCount "sorted" 1 1 _) (wpAny_pure ?_)
  refine wpAny_bind (collect_set (A := X.A.in1) (I.ok.hd hc) ⟨o, ho, hex.1, hd⟩ R.fits (by unfold scanBound; omega) R.tab.ris R.led fun s1 vs k1 hz g1 o1 pm => ?_)
  have hes : es.toList.map (·.2) = L.map fun q => Value.ref q.1 := by
    rw [R.rows]
    unfold rowsN
    rw [List.map_map]
    rfl
  rw [hes] at pm
  obtain ⟨L', rfl, pL⟩ := perm_refs pm
  have e1 : s1 = { s with heap := s1.heap, gens := s1.gens, drawn := s1.drawn, toks := s1.toks } := by
    cases s1
    cases s
    cases o1
    rfl
  have I1 : Inv X pins σ H s1 := by
    rw [e1]
    exact I.call (ch := []) (Un.kept k1) (I.hok.kept k1) (by rw [g1]; exact I.bare) fun _ z => nomatch z
  have hlen : L'.length < 64 := by rw [pL.length_eq]; exact hfew
  have hL : ∀ p ∈ L', RelD X.K H (g p) (.ref p.1) := fun p hp => hg p (pL.mem_iff.mp hp)
  have so1 : SortD (L'.map g) := so.perm (pL.map g)
  have ea : EachIs (IsD X.K H) (L'.map fun q => Value.ref q.1) (L'.map g) := by
    clear pm pL so1 hlen
    induction L' with
    | nil => exact .nil
    | cons q L' ih => exact .cons ⟨.ref q.1, rfl, hL q List.mem_cons_self⟩ (ih fun p hp => hL p (List.mem_cons_of_mem _ hp))
  refine wpAny_bind (wpAny_newList ?_ (by rw [List.length_map, sizeLine_eq]; omega))
  generalize hvs : (L'.map fun q => Value.ref q.1) = vs at ea
  have hvl : vs.length = L'.length := by rw [← hvs, List.length_map]
  have hoL : (s1.heap.push (seqObj "list" vs.toArray 0)).get? s1.heap.objs.size = some (seqObj "list" vs.toArray 0) := Heap.get?_push_size _ rfl
  have er : EachIs (fun v b => ∃ as, Reads (s1.heap.push (seqObj "list" vs.toArray 0)) v (enc b) as ∧ s1.heap.objs.size ∉ as) vs (L'.map g) :=
    each_imp (fun v d _ hd ⟨as, r⟩ => by
      obtain ⟨p, hp, _⟩ := so1.dt d hd
      have : enc d = p := by unfold enc; rw [hp]; rfl
      rw [this] at r ⊢
      refine ⟨as, PyProof.Rows.Reads.keeps (fun _ _ q => Heap.get?_push_of_some _ q) r, ?_⟩
      rw [reads_flat hp r]
      exact fun z => nomatch z) (reads_of I1 so1 ea)
  refine wpAny_bind (wpAny_holding (PySem.W.list_sort_data (s := { s1 with heap := s1.heap.push (seqObj "list" vs.toArray 0) }) (R := IsD X.K H) hoL ea er so1.al so1.so (by rw [List.length_map, sizeLine_eq]; omega) (fun b hb => by
    have := so1.deep b hb
    simp only [Around.in1_units]
    omega) fun out hol eo => ?_))
  obtain ⟨c, hcc⟩ := sortedHeap_at (vs := vs) (out := out.toArray) hoL
  obtain ⟨xs, rv, rr⟩ := each_vals eo
  have old : ∀ b u, s1.heap.get? b = some u → (sortedHeap (s1.heap.push (seqObj "list" vs.toArray 0)) s1.heap.objs.size vs out.toArray).get? b = some u := fun b u e => by
    have hlt := Heap.lt_size e
    rw [sortedHeap_old (Nat.ne_of_lt hlt) (by rw [Heap.size_push]; exact Nat.lt_succ_of_lt hlt)]
    exact Heap.get?_push_of_some _ e
  have hn : H s1.heap.objs.size = none := I1.hok.fresh (Nat.le_refl _)
  have hxl : xs.length ≤ sizeLine := by
    rw [rv.length, hol, List.length_map, sizeLine_eq]
    omega
  have J := I1.laid (o := .lst xs) (t' := s1.toks) old (Nat.le_refl _) ⟨hxl, out, c, rv, hcc⟩
  exact wpAny_pure ⟨_, rfl, .ref s1.heap.objs.size, _, J, rfl, q _ xs _ ((List.mergeSort_perm _ _).trans (pL.map g)) (PySem.W.sort_pairwise dataLe_total _) rr hn⟩
end
end DL
/-! DL11: is None, isinstance, d.get, d.setdefault, sum, sorted(set(..)), two and three names at once, name op= value. -/
namespace DL
open PySem PySem.Spec PyProof.Rows L2
open PySem.W (dataLe)
section
variable {X : Cx}
/-! ### is None -/
def isNonB : D → Bool
  | .non => true
  | _ => false
theorem isNonB_rel {K : PySem.W.Frag} {H : Hp} {d : D} {x : V} (r : RelD K H d x) : decide (x = .non) = isNonB d := by
  cases d with
  | tup ds =>
    obtain ⟨a, xs, rfl, _⟩ := r
    simp [isNonB]
  | _ =>
    have r : x = _ := r
    subst r
    simp [isNonB]
def rIsN (n : Bool) : R2d := fun d e G q => e = .non ∧ q (.bl (xor n (isNonB d))) G
theorem od_isN : OpR X (compareOp .Is) (lift2 (wd X) (rIsN false)) := OpR.imp op_isN fun x y H Q ⟨d, e, G, q, rd, re, hG, ⟨h1, h2⟩, hw⟩ => by
  subst h1
  refine ⟨re, ?_⟩
  rw [isNonB_rel rd]
  rw [Bool.false_xor] at h2
  exact hw (.bl _) H (.bl _) G Tk.refl hG rfl h2
theorem od_notN : OpR X (compareOp .IsNot) (lift2 (wd X) (rIsN true)) := OpR.imp op_notN fun x y H Q ⟨d, e, G, q, rd, re, hG, ⟨h1, h2⟩, hw⟩ => by
  subst h1
  refine ⟨re, ?_⟩
  rw [isNonB_rel rd]
  rw [Bool.true_xor] at h2
  exact hw (.bl _) H (.bl _) G Tk.refl hG rfl h2
/-! ### isinstance(x, T) -/
def tyN (d : D) (G : Gp) : Option String := match d with
  | .non => some "NoneType"
  | .bl _ => some "bool"
  | .int _ => some "int"
  | .str _ => some "str"
  | .tup _ => some "tuple"
  | .ref a => match G a with
    | some (.lst _) => some "list"
    | some (.rol _) => some "list"
    | _ => none
def isTyB (t T : String) : Bool := t == T || (t == "bool" && T == "int")
theorem kitB_all : ((["NoneType", "bool", "int", "str", "tuple", "list"] : List String).all fun t => (["bool", "int", "str", "tuple", "list", "dict"] : List String).all fun T => kitB t T == some (isTyB t T)) = true := by decide +kernel
theorem kitB_of {t T : String} (h1 : t ∈ (["NoneType", "bool", "int", "str", "tuple", "list"] : List String)) (h2 : T ∈ (["bool", "int", "str", "tuple", "list", "dict"] : List String)) : kitB t T = some (isTyB t T) := by
  have h := kitB_all
  rw [List.all_eq_true] at h
  have h := h t h1
  rw [List.all_eq_true] at h
  simpa using h T h2
theorem tyN_mem {d : D} {G : Gp} {t : String} (e : tyN d G = some t) : t ∈ (["NoneType", "bool", "int", "str", "tuple", "list"] : List String) := by
  cases d with
  | ref a =>
    have e : (match G a with | some (.lst _) => some "list" | some (.rol _) => some "list" | _ => none) = some t := e
    split at e <;> cases e <;> simp
  | _ => cases e <;> simp
theorem tyX_of {W : Wd} {H : Hp} {d : D} {G : Gp} {x : V} {t : String} (r : RelD W.K H d x) (hG : AbsH W H G) (e : tyN d G = some t) : TyX W.K H x (.type t) := by
  cases d with
  | tup ds =>
    cases e
    obtain ⟨a, xs, rfl, hq, _⟩ := r
    rcases hq with (q | ⟨o, q⟩) | ⟨o, its, n, q1, q2, _⟩
    · exact .base (.tup q)
    · exact .fTuple q
    · exact .kTuple q1 q2
  | ref a =>
    obtain rfl : x = .ref a := r
    have e : (match G a with | some (.lst _) => some "list" | some (.rol _) => some "list" | _ => none) = some t := e
    split at e
    · rename_i ds ea
      cases e
      obtain ⟨xs, e1, _⟩ := hG a _ ea
      exact .base (.lst e1)
    · rename_i ds ea
      cases e
      obtain ⟨xs, e1, _⟩ := hG a _ ea
      rcases e1 with q | ⟨o, q⟩
      · exact .base (.lst q)
      · exact .base (.frz q)
    · cases e
  | non =>
    obtain rfl : x = .non := r
    cases e
    exact .base .non
  | bl b =>
    obtain rfl : x = .bl b := r
    cases e
    exact .base (.bl b)
  | int i =>
    obtain rfl : x = .int i := r
    cases e
    exact .base (.int i)
  | str y =>
    obtain rfl : x = .str y := r
    cases e
    exact .base (.str y)
def dIsI (T : String) (te : TD) : TD := fun σ G q => te σ G fun d G1 => ∃ t, tyN d G1 = some t ∧ q (.bl (isTyB t T)) G1
theorem qe_isi {e : Expr} {te : TD} {T : String} {y : Str} {p p2 pos : Pos} (hT : T ∈ (["bool", "int", "str", "tuple", "list", "dict"] : List String)) (hg : Gl X "isinstance") (hm : X.mg "isinstance" = none) (hg2 : Gl X y) (hm2 : X.mg y = none) (hv2 : bootBuiltins y = some (.type T)) (he : QE X e te)
    (hn2 : y ≠ "__name__" := by decide) (hd2 : (y == ("__debug__" : Str)) = false := by decide)
    (hv : bootBuiltins "isinstance" = some (.builtin "isinstance") := by rfl)
    (hs : starEach [e, .Name y p2] X.env = (false, eval e X.env) :: starEach [.Name y p2] X.env := by rfl) (hpl : (backTo pos (starEach [.Name y p2] X.env)).any (·.1) = false := by rfl) : QE X (.Call (.Name "isinstance" p) [e, .Name y p2] [] pos) (dIsI T te) :=
  PE.imp (pe_callB call_isi hg hm hv (pa_cons he (pa_cons (pe_bltn hg2 hm2 hv2 (show RelV (.ty T) (.type T) from rfl) hn2 hd2) pa_nil) hs) (by decide) (by decide) hs hpl) fun σ H Q ⟨σd, G, q, hS, hG, h, hw⟩ =>
    ⟨σd, G, _, hS, hG, h, fun x H1 d G1 tk hG1 rd ⟨t, et, h1⟩ => ⟨x, .ty T, .type t, .type T, isTyB t T, rfl, .ty T, tyX_of rd hG1 et, kit_ty (kitB_of (tyN_mem et) hT), hw _ H1 (.bl _) G1 tk hG1 rfl h1⟩⟩
/-! ### d.get(k, x), d.setdefault(k, x) -/
/-- a dict, locked or not -/
def dicA (d : D) (G : Gp) (k : List (D × D) → Prop) : Prop := match d with
  | .ref a => match G a with
    | some (.dic kvs) => k kvs
    | some (.rdc kvs) => k kvs
    | _ => False
  | _ => False
theorem dicA_of {W : Wd} {H : Hp} {d : D} {x : V} {G : Gp} {k : List (D × D) → Prop} (h : dicA d G k) (rd : RelD W.K H d x) (hG : AbsH W H G) : ∃ a kvs l, d = .ref a ∧ x = .ref a ∧ Dic W H l a kvs ∧ k kvs := by
  cases d with
  | ref a =>
    have h : (match G a with | some (.dic kvs) => k kvs | some (.rdc kvs) => k kvs | _ => False) := h
    cases ea : G a with
    | none => rw [ea] at h; exact h.elim
    | some m =>
      rw [ea] at h
      cases m with
      | dic kvs => exact ⟨a, kvs, false, rfl, rd, hG a _ ea, h⟩
      | rdc kvs => exact ⟨a, kvs, true, rfl, rd, hG a _ ea, h⟩
      | _ => exact h.elim
  | _ => exact h.elim
def rGet : RMd := fun d es G q => arg2 es fun k x => dicA d G fun kvs => fits kvs k = true ∧ q ((dget kvs k).getD x) G
theorem mtd_get (hu : X.A.units + 64 < cLine) : MtR X "dict.get" (liftM (wd X) rGet) := by
  intro pins s σ H x vs v us Q I rx rv h
  obtain ⟨d, ds, G, q, rd, rr, hG, h, hw⟩ := h
  obtain ⟨k, z, y, u, rfl, rfl, rk, rz, h⟩ := arg2_of h rr
  obtain ⟨a, kvs, l, rfl, rfl, hd, f, h⟩ := dicA_of h rd hG
  cases rx
  obtain ⟨w1, w2, rfl, ry, ru⟩ := vals2 rv
  have hu1 : X.A.units + 1 < cLine := by omega
  rcases dic_case hd f with ⟨kk, xs, rfl, e, r⟩ | ⟨ds, nk, rfl, ek, ed, hh⟩
  · obtain ⟨_, rfl⟩ := isK_of (k := kk) (d := kD kk) (by cases kk <;> rfl) rk
    rcases krel_get (k := kk) r with ⟨e1, e2⟩ | ⟨d', v', e1, e2, rv'⟩
    · rw [e1] at h
      exact d_get2 hu1 I (.inl ⟨xs, kk, e.rd, rfl, e2.symm⟩) ry ru fun w' s' I' rw' => ⟨u, H, I', rw', hw _ H z G Tk.refl hG rz h⟩
    · rw [e1] at h
      exact d_get2 hu1 I (.inl ⟨xs, kk, e.rd, rfl, e2.symm⟩) ry ru fun w' s' I' rw' => ⟨v', H, I', rw', hw _ H d' G Tk.refl hG rv' h⟩
  · have rk0 := rk
    obtain ⟨b, xs, rfl, hq, rr'⟩ := rk
    cases ry
    have hr : (nestedKind X.prog X.w).room X.A.in1 := by
      show X.A.units + 1 + 8 < cLine
      omega
    have hk : (nestedKind X.prog X.w).is s.heap nk b := tupKey I rk0 ek ed
    rcases hh with ⟨rfl, e⟩ | ⟨zs, e⟩
    · refine getOr_keyed hr hk (dk_rd I.hok e.rd).2.1 ⟨[], dic_nil I e.rd, rfl⟩ ?_
      exact ⟨u, H, I.tok _, ru, hw _ H z G Tk.refl hG rz h⟩
    · refine getOr_keyed hr hk e.sys ⟨zs, dicT_heap I e, rfl⟩ ?_
      rw [valueAt_pairsH]
      rcases trel_get e.rel ek with ⟨e1, e2⟩ | ⟨d', b', u', e1, e2, v', ru', rv'⟩
      · rw [e1] at h
        rw [e2]
        exact ⟨u, H, I.tok _, ru, hw _ H z G Tk.refl hG rz h⟩
      · rw [e1] at h
        rw [e2]
        exact ⟨v', H, I.tok _, ru', hw _ H d' G Tk.refl hG rv' h⟩
def dicM (d : D) (G : Gp) (k : Addr → List (D × D) → Prop) : Prop := match d with
  | .ref a => match G a with
    | some (.dic kvs) => k a kvs
    | _ => False
  | _ => False
theorem dicM_of {W : Wd} {H : Hp} {d : D} {x : V} {G : Gp} {k : Addr → List (D × D) → Prop} (h : dicM d G k) (rd : RelD W.K H d x) (hG : AbsH W H G) : ∃ a kvs, d = .ref a ∧ x = .ref a ∧ G a = some (.dic kvs) ∧ AbsMO W H a (.dic kvs) ∧ k a kvs := by
  cases d with
  | ref a =>
    have h : (match G a with | some (.dic kvs) => k a kvs | _ => False) := h
    cases ea : G a with
    | none => rw [ea] at h; exact h.elim
    | some m =>
      rw [ea] at h
      cases m with
      | dic kvs => exact ⟨a, kvs, rfl, rd, ea, hG a _ ea, h⟩
      | _ => exact h.elim
  | _ => exact h.elim
def rSetdef : RMd := fun d es G q => arg2 es fun k x => dicM d G fun a kvs => fits kvs k = true ∧ kvs.length < sizeLine ∧ match dget kvs k with
  | some e => q e G
  | none => q x (gup G a (.dic (dput kvs k x)))
theorem mtd_setdefault (hu : X.A.units + 64 < cLine) : MtR X "dict.setdefault" (liftM (wd X) rSetdef) := by
  intro pins s σ H x vs v us Q I rx rv h
  obtain ⟨d, ds, G, q, rd, rr, hG, h, hw⟩ := h
  obtain ⟨k, z, y, u, rfl, rfl, rk, rz, h⟩ := arg2_of h rr
  obtain ⟨a, kvs, rfl, rfl, ea, hd, f, len, h⟩ := dicM_of h rd hG
  cases rx
  obtain ⟨w1, w2, rfl, ry, ru⟩ := vals2 rv
  refine dic_setdefault hu I hd f len rk ry ru rz (fun e he z' w' s' I' rw' rz' => ?_) fun hn s' H' I' tk ⟨o, eH⟩ ab w' rw' => ?_
  · rw [he] at h
    exact ⟨z', H, I', rw', hw _ H e G Tk.refl hG rz' h⟩
  · rw [hn] at h
    subst eH
    exact ⟨u, _, I', rw', hw _ _ z _ tk (hG.upd tk ab) (rz.mono tk) h⟩
/-! ### sum -/
def lisK (d : D) (G : Gp) (k : List D → Prop) : Prop := match d with
  | .ref a => match G a with
    | some (.lst ds) => k ds
    | some (.rol ds) => k ds
    | _ => False
  | _ => False
theorem lisK_of {W : Wd} {H : Hp} {d : D} {x : V} {G : Gp} {k : List D → Prop} (h : lisK d G k) (rd : RelD W.K H d x) (hG : AbsH W H G) : ∃ a ds xs, d = .ref a ∧ x = .ref a ∧ SqL W.K H a xs ∧ RelDs W.K H ds xs ∧ k ds := by
  cases d with
  | ref a =>
    have h : (match G a with | some (.lst ds) => k ds | some (.rol ds) => k ds | _ => False) := h
    cases ea : G a with
    | none => rw [ea] at h; exact h.elim
    | some m =>
      rw [ea] at h
      cases m with
      | lst ds =>
        obtain ⟨xs, e1, r1⟩ := hG a _ ea
        exact ⟨a, ds, xs, rfl, rd, SqL.of e1, r1, h⟩
      | rol ds =>
        obtain ⟨xs, e1, r1⟩ := hG a _ ea
        exact ⟨a, ds, xs, rfl, rd, .inl e1, r1, h⟩
      | _ => exact h.elim
  | _ => exact h.elim
theorem rel_ints {K : PySem.W.Frag} {H : Hp} : ∀ {ns : List Int} {xs : List V}, RelDs K H (ns.map D.int) xs → xs = ns.map V.int
  | [], _, r => r
  | n :: ns, _, ⟨x, xr, e, r1, r2⟩ => by
    obtain rfl : x = .int n := r1
    rw [e, rel_ints r2]
    rfl
def rSumD : RNd := fun ds G q => arg1 ds fun d => lisK d G fun es => ∃ ns : List Int, es = ns.map D.int ∧ q (.int ns.sum) G
theorem cd_sum (hc : X.calm = true) : CallR X (.builtin "sum") (liftN (wd X) rSumD) := by
  intro pins s σ H xs us Q I r h
  obtain ⟨ds, G, q, rr, hG, h, hw⟩ := h
  obtain ⟨d, v, rfl, rfl, rd, h⟩ := arg1_of h rr
  obtain ⟨a, es, ys, rfl, rfl, hq, r1, ns, rfl, h⟩ := lisK_of h rd hG
  have e := rel_ints r1
  subst e
  exact cr_sum hc pins s σ H _ us Q I r ⟨a, ns, rfl, hq, hw _ H (.int _) G Tk.refl hG rfl h⟩
/-! ### sorted(set(xs)), xs a list of tuples -/
def keysUp (ds : List D) : Prop := ∀ d ∈ ds, (∃ es, d = .tup es) ∧ ∃ k, keyOf d = some k ∧ k.depth ≤ 8
def dSortSet (te : TD) : TD := fun σ G q => te σ G fun d G1 => lisK d G1 fun ds => ds.length < 64 ∧ keysUp ds ∧ SortD ds ∧
  ∀ rs, rs.Pairwise (fun a b => dataLe false enc a b = true) → (∀ r ∈ rs, r ∈ ds) → (∀ d ∈ ds, ∃ r ∈ rs, keyOf r = keyOf d) → (rs.map keyOf).Nodup → newO (.lst rs) q G1
theorem keys_of {K : PySem.W.Frag} {H : Hp} : ∀ {ds : List D} {xs : List V}, RelDs K H ds xs → keysUp ds → ∃ ks : List (Addr × NestedKey), xs = ks.map (fun p => V.ref p.1) ∧ (∀ p ∈ ks, KeyV K H p) ∧ ks.map (fun p => some p.2) = ds.map keyOf ∧
    ∃ g : Addr × NestedKey → D, ∀ p ∈ ks, g p ∈ ds ∧ RelD K H (g p) (.ref p.1) ∧ keyOf (g p) = some p.2
  | [], xs, r, _ => ⟨[], r, fun p hp => (nomatch hp), rfl, fun _ => .non, fun p hp => (nomatch hp)⟩
  | d :: ds, xs, ⟨x, xr, e, r1, r2⟩, hk => by
    obtain ⟨ks, e1, h1, h2, g, hg⟩ := keys_of r2 fun d hd => hk d (List.mem_cons_of_mem _ hd)
    obtain ⟨⟨es, ed⟩, k, ek, hd⟩ := hk d List.mem_cons_self
    subst ed
    have r0 := r1
    obtain ⟨b, ys, rfl, _, _⟩ := r1
    refine ⟨(b, k) :: ks, by rw [e, e1]; rfl, fun p hp => ?_, by rw [List.map_cons, List.map_cons, h2, ek], ?_⟩
    · rcases List.mem_cons.mp hp with rfl | hp
      · exact ⟨es, r0, ek, hd⟩
      · exact h1 p hp
    · classical
      refine ⟨fun p => if p = (b, k) then .tup es else g p, fun p hp => ?_⟩
      by_cases hb : p = (b, k)
      · subst hb
        dsimp only
        rw [if_pos rfl]
        exact ⟨List.mem_cons_self, r0, ek⟩
      · dsimp only
        rw [if_neg hb]
        rcases List.mem_cons.mp hp with hp | hp
        · exact absurd hp hb
        · obtain ⟨g1, g2⟩ := hg p hp
          exact ⟨List.mem_cons_of_mem _ g1, g2⟩
theorem qe_sortSet {a : Expr} {ta : TD} {p p2 q2 pos : Pos} (hc : X.calm = true) (hu : X.A.units + 64 < cLine) (hg : Gl X "sorted") (hm : X.mg "sorted" = none) (hg2 : Gl X "set") (hm2 : X.mg "set" = none) (ha : QE X a ta)
    (hv : bootBuiltins "sorted" = some (.builtin "sorted") := by rfl) (hv2 : bootBuiltins "set" = some (.type "set") := by rfl)
    (hs2 : starEach [a] X.env = (false, eval a X.env) :: starEach [] X.env := by rfl) (hpl2 : (backTo q2 (starEach [] X.env)).any (·.1) = false := by rfl)
    (hs : starEach [.Call (.Name "set" p2) [a] [] q2] X.env = (false, eval (.Call (.Name "set" p2) [a] [] q2) X.env) :: starEach [] X.env := by rfl) (hpl : (backTo pos (starEach [] X.env)).any (·.1) = false := by rfl) :
    QE X (.Call (.Name "sorted" p) [.Call (.Name "set" p2) [a] [] q2] [] pos) (dSortSet ta) :=
  PE.imp (pe_callB (cr_sortN hc hu) hg hm hv (pa_cons (pe_callTy (cr_setN hc hu) hg2 hm2 hv2 (pa_cons ha pa_nil hs2) (by decide) (by decide) hs2 hpl2) pa_nil hs) (by decide) (by decide) hs hpl) fun σ H Q ⟨σd, G, q, hS, hG, h, hw⟩ =>
    ⟨σd, G, _, hS, hG, h, fun x H1 d G1 tk hG1 rd h1 => by
      obtain ⟨b, ds, xs, rfl, rfl, hq, rr, hl, hk, so, h2⟩ := lisK_of h1 rd hG1
      obtain ⟨ks, rfl, hK, hkk, g, hgg⟩ := keys_of rr hk
      have hlen : ks.length = ds.length := by
        have := congrArg List.length hkk
        simpa using this
      refine ⟨b, ks, rfl, hq, hK, by omega, fun c L hcn gt nd => ?_⟩
      have sub : ∀ p ∈ L, p ∈ ks := fun p hp => List.mem_of_mem_take (gt.sub p hp)
      have tk2 : Tk X.K H1 (upd H1 c (SetO X.w c L)) := Tk.new hcn
      refine ⟨c, L, g, rfl, upd_same, fun p hp => (hgg p (sub p hp)).2.1.mono tk2, so.sub fun d hd => ?_, fun rs ys p2 pm pw rr2 hp2 => ?_⟩
      · obtain ⟨p, hp, rfl⟩ := List.mem_map.mp hd
        exact (hgg p (sub p hp)).1
      · have tk3 : Tk X.K (upd H1 c (SetO X.w c L)) (upd (upd H1 c (SetO X.w c L)) p2 (.lst ys)) := Tk.new hp2
        have hG2 : AbsH (wd X) (upd H1 c (SetO X.w c L)) G1 := hG1.laid hcn
        refine new_lst hG2 (hw.mono (tk.trans tk2)) rr2 (h2 rs pw (fun r hr => ?_) (fun d hd => ?_) ?_) hp2
        · obtain ⟨p, hp, rfl⟩ := List.mem_map.mp (pm.mem_iff.mp hr)
          exact (hgg p (sub p hp)).1
        · have hm : keyOf d ∈ ks.map (fun p => some p.2) := by
            rw [hkk]
            exact List.mem_map.mpr ⟨d, hd, rfl⟩
          obtain ⟨p, hp, e⟩ := List.mem_map.mp hm
          have := gt.all p (by rw [List.take_length]; exact hp)
          obtain ⟨p', hp', e'⟩ := List.mem_map.mp this
          refine ⟨g p', pm.mem_iff.mpr (List.mem_map.mpr ⟨p', hp', rfl⟩), ?_⟩
          rw [(hgg p' (sub p' hp')).2.2, e']
          exact e
        · have e1 : (L.map g).map keyOf = (L.map (·.2)).map some := by
            rw [List.map_map, List.map_map]
            exact List.map_congr_left fun p hp => (hgg p (sub p hp)).2.2
          refine (pm.map keyOf).nodup_iff.mpr ?_
          rw [e1]
          exact List.Pairwise.map _ (fun a b h e => h (Option.some.inj e)) nd⟩
/-! ### two, three names at once -/
def dPar (i j : Nat) (ta : TAd) : TSd := fun E σ G => ta σ G fun ds G1 => arg2 ds fun d e => E.nx ((σ.set i (some d)).set j (some e)) G1
theorem qs_par {i j : Nat} {x y : Str} {a b : Expr} {ta : TAd} {px py pt pos : Pos} {kt k2 pt2} (hc : X.calm = true) (hN : X.N.Nodup) (hi : X.N[i]? = some x) (hj : X.N[j]? = some y) (hij : i ≠ j)
    (hx : X.env.scope.names.lookup x = some .local) (hy : X.env.scope.names.lookup y = some .local) (ha : QA X [a, b] ta)
    (hw : swappedStores [.Tuple [.Name x px, .Name y py] kt pt] (.Tuple [a, b] k2 pt2) X.env = pure (some [x, y]))
    (hs : swapsWithSole [.Tuple [.Name x px, .Name y py] kt pt] (.Tuple [a, b] k2 pt2) pos.line X.env = pure false := by rfl) : QS X (.Assign [.Tuple [.Name x px, .Name y py] kt pt] (.Tuple [a, b] k2 pt2) pos) (dPar i j ta) :=
  PS.imp (ps_par hc hN hi hj hij hx hy ha hw hs) fun F σ H ⟨σd, G, E, hS, hG, h, l⟩ => ⟨σd, G, _, hS, hG, h, fun vs H1 ds G1 tk hG1 rr h1 => by
    obtain ⟨d, e, v, u, rfl, rfl, rd, re, h2⟩ := arg2_of h1 rr
    exact ⟨v, u, rfl, l.nx _ H1 _ G1 tk (((hS.mono tk).set rd).set re) hG1 h2⟩⟩
def arg3 (ds : List D) (k : D → D → D → Prop) : Prop := match ds with
  | [d, e, f] => k d e f
  | _ => False
def dPar3 (i j m : Nat) (ta : TAd) : TSd := fun E σ G => ta σ G fun ds G1 => arg3 ds fun d e f => E.nx (((σ.set i (some d)).set j (some e)).set m (some f)) G1
theorem arg3_of {W : Wd} {H : Hp} {ds : List D} {vs : List V} {k : D → D → D → Prop} (h : arg3 ds k) (r : RelDs W.K H ds vs) : ∃ d e f v u w, ds = [d, e, f] ∧ vs = [v, u, w] ∧ RelD W.K H d v ∧ RelD W.K H e u ∧ RelD W.K H f w ∧ k d e f := by
  cases ds with
  | nil => exact h.elim
  | cons d ds =>
    cases ds with
    | nil => exact h.elim
    | cons e ds =>
      cases ds with
      | nil => exact h.elim
      | cons f ds =>
        cases ds with
        | cons g ds => exact h.elim
        | nil =>
          obtain ⟨v, r', e1, r1, u, r'', e2, r2, w, r3', e3, r3, e4⟩ := r
          have e4 : r3' = [] := e4
          subst e4 e3 e2 e1
          exact ⟨d, e, f, v, u, w, rfl, rfl, r1, r2, r3, h⟩
theorem qs_par3 {i j m : Nat} {x y z : Str} {a b c : Expr} {ta : TAd} {px py pz pt pos : Pos} {kt k2 pt2} (hc : X.calm = true) (hN : X.N.Nodup) (hi : X.N[i]? = some x) (hj : X.N[j]? = some y) (hl : X.N[m]? = some z) (hij : i ≠ j) (hil : i ≠ m) (hjl : j ≠ m)
    (hx : X.env.scope.names.lookup x = some .local) (hy : X.env.scope.names.lookup y = some .local) (hz : X.env.scope.names.lookup z = some .local) (ha : QA X [a, b, c] ta)
    (hw : swappedStores [.Tuple [.Name x px, .Name y py, .Name z pz] kt pt] (.Tuple [a, b, c] k2 pt2) X.env = pure (some [x, y, z]))
    (hs : swapsWithSole [.Tuple [.Name x px, .Name y py, .Name z pz] kt pt] (.Tuple [a, b, c] k2 pt2) pos.line X.env = pure false := by rfl) : QS X (.Assign [.Tuple [.Name x px, .Name y py, .Name z pz] kt pt] (.Tuple [a, b, c] k2 pt2) pos) (dPar3 i j m ta) :=
  PS.imp (ps_par3 hc hN hi hj hl hij hil hjl hx hy hz ha hw hs) fun F σ H ⟨σd, G, E, hS, hG, h, l⟩ => ⟨σd, G, _, hS, hG, h, fun vs H1 ds G1 tk hG1 rr h1 => by
    obtain ⟨d, e, f, v, u, w, rfl, rfl, rd, re, rf, h2⟩ := arg3_of h1 rr
    exact ⟨v, u, w, rfl, l.nx _ H1 _ G1 tk ((((hS.mono tk).set rd).set re).set rf) hG1 h2⟩⟩
/-! ### name += number -/
def dAugI (f : Int → Int → Int) (i : Nat) (te : TD) : TSd := fun E σ G => match σ[i]? with
  | some (some d) => isI d fun m => te σ G fun e G1 => isI e fun n => E.nx (σ.set i (some (.int (f m n)))) G1
  | _ => False
theorem qs_augI {i : Nat} {x : Str} {e : Expr} {te : TD} {op : Operator} {f : Int → Int → Int} {pos pos' : Pos} (ho : PIp X op (ipI f)) (hN : X.N.Nodup) (hi : X.N[i]? = some x) (hx : Loc X.env.scope x) (he : QE X e te) (hf : X.fn x = true ∨ X.env.scope.names.lookup x = some .local := by first | exact .inl rfl | exact .inr rfl | assumption) :
    QS X (.AugAssign (.Name x pos') op e pos) (dAugI f i te) :=
  PS.imp (ps_aug hN hi hx he ho hf) fun F σ H ⟨σd, G, E, hS, hG, h, l⟩ => by
    unfold dAugI at h
    split at h
    · rename_i d ed
      cases d with
      | int m =>
        obtain ⟨v, ev, rv⟩ := hS.get i _ ed
        obtain rfl : v = .int m := rv
        refine ⟨.int m, ev, σd, G, _, hS, hG, h, fun y H1 d1 G1 tk hG1 r1 h1 => ?_⟩
        cases d1 with
        | int n =>
          obtain rfl : y = .int n := r1
          exact ⟨m, n, rfl, rfl, l.nx _ H1 _ G1 tk ((hS.mono tk).set (d := .int (f m n)) rfl) hG1 h1⟩
        | _ => exact h1.elim
      | _ => exact h.elim
    · exact h.elim
end
end DL
/-! DL12: sorted(list), dict(pairs), a dict as written, tuples whose object is known. -/
namespace DL
open PySem PySem.Spec PyProof.Rows L2
open PySem.W (dataLe EachIs)
section
variable {X : Cx}
/-! ### sorted(xs) -/
def rSortedD : RNd := fun ds G q => arg1 ds fun d => lisK d G fun es => SortD es ∧ ∀ rs, rs = es.mergeSort (dataLe false enc) → rs.Perm es → rs.Pairwise (fun a b => dataLe false enc a b = true) → newO (.lst rs) q G
theorem cd_sorted (hu : X.A.units + 64 < cLine) : CallR X (.builtin "sorted") (liftN (wd X) rSortedD) := by
  intro pins s σ H xs us Q I r h
  obtain ⟨ds, G, q, rr, hG, h, hw⟩ := h
  obtain ⟨d, v, rfl, rfl, rd, h⟩ := arg1_of h rr
  obtain ⟨a, es, ys, rfl, rfl, hq, r1, so, h⟩ := lisK_of h rd hG
  rw [Vals.ref1 r]
  obtain ⟨its, rv, pl, hz⟩ := I.list hq
  have ea : EachIs (IsD X.K H) its es := vals_each rv r1
  have hlen : its.length = es.length := ea.length
  have hzs : es.length ≤ sizeLine := by
    rw [← hlen, ← rv.length]
    exact hz
  refine PySem.W.sorted_data (R := IsD X.K H) pl.isList ea (reads_of I so ea) so.al so.so hzs (fun b hb => by have := so.deep b hb; omega) fun out hol eo => ?_
  obtain ⟨c, hcc⟩ := sortedAll_at s.heap its out.toArray
  obtain ⟨zs, rz, rr2⟩ := each_vals eo
  have hn : H (s.heap.objs.size + 1) = none := I.hok.fresh (Nat.le_succ _)
  have hzl : zs.length ≤ sizeLine := by
    rw [rz.length, hol]
    exact hzs
  have J := I.laid (o := .lst zs) (t' := s.toks) (fun b o e => sortedAll_old (vs := its) (out := out.toArray) e) (Nat.le_succ _) ⟨hzl, out, c, rz, hcc⟩
  exact ⟨.ref (s.heap.objs.size + 1), _, J, rfl, new_lst hG hw rr2 (h _ rfl (List.mergeSort_perm _ _) (PySem.W.sort_pairwise dataLe_total _)) hn⟩
/-! ### a tuple whose object is known -/
def rTupF : RNd := fun ds G q => arg1 ds fun d => lisK d G fun es => newO (.ftp es) q G
theorem cd_tupleF : CallR X (.type "tuple") (liftN (wd X) rTupF) := by
  intro pins s σ H xs us Q I r h
  obtain ⟨ds, G, q, rr, hG, h, hw⟩ := h
  obtain ⟨d, v, rfl, rfl, rd, h⟩ := arg1_of h rr
  obtain ⟨a, es, ys, rfl, rfl, hq, r1, h⟩ := lisK_of h rd hG
  rw [Vals.ref1 r]
  obtain ⟨its, rv, pl, hz⟩ := I.list hq
  have hlen := rv.length
  refine call_tuple_list pl.isList (fun h' kp => ?_) (by simp only [List.size_toArray] <;> omega)
  have I1 : Inv X pins σ H { s with heap := h' } := I.kept (t' := s.toks) kp
  have hn : H h'.objs.size = none := I1.hok.fresh (Nat.le_refl _)
  have J := I1.laid (o := .frz { cls := .type "tuple", data := .seq its.toArray } (.tup ys)) (t' := s.toks) (fun b o e => Heap.get?_push_of_some { cls := .type "tuple", data := .seq its.toArray } e) (Nat.le_refl _) ⟨Heap.get?_push_size _ rfl, hz, its, rv, IsTup.new _ _⟩
  have tk : Tk X.K H (upd H h'.objs.size (.frz { cls := .type "tuple", data := .seq its.toArray } (.tup ys))) := Tk.new hn
  exact ⟨.ref h'.objs.size, _, J, rfl, hw _ _ (.ref _) _ tk (hG.upd (m := .ftp es) tk ⟨_, ys, upd_same, rfl, r1.mono tk⟩) rfl (h _ (hG.none hn))⟩
/-- a name; a tuple whose object is known as a tuple -/
def dVarF (i : Nat) : TD := fun σ G q => match σ[i]? with
  | some (some (.ref a)) => match G a with
    | some (.ftp ds) => q (.tup ds) G
    | _ => False
  | _ => False
theorem qe_varF {i : Nat} {x : Str} {pos : Pos} (hN : X.N[i]? = some x) (hv : Vis X.env.scope x) (hd : (x == ("__debug__" : Str)) = false := by decide) (hcd : (x == ("__classdict__" : Str)) = false := by decide) : QE X (.Name x pos) (dVarF i) :=
  PE.imp (qe_var hN hv hd hcd) fun σ H Q ⟨σd, G, q, hS, hG, h, hw⟩ => by
    unfold dVarF at h
    split at h
    · rename_i a ea
      split at h
      · rename_i ds eg
        refine ⟨σd, G, fun d G' => d = .ref a ∧ G' = G, hS, hG, by unfold dVar; rw [ea]; exact ⟨rfl, rfl⟩, fun v H' d G' tk hG' r ⟨e1, e2⟩ => ?_⟩
        subst e1 e2
        obtain ⟨ob, vs, hH, _, rr⟩ := hG' a _ eg
        exact hw v H' (.tup ds) G' tk hG' ⟨a, vs, r, .inl (.inr ⟨ob, hH⟩), rr⟩ h
      · exact h.elim
    · exact h.elim
/-! ### dict(pairs) -/
def dputs (kvs : List (D × D)) : List (D × D) := kvs.foldl (fun acc p => dput acc p.1 p.2) []
/-- a list of pairs; a tuple of pairs whose object is known -/
def prsK (d : D) (G : Gp) (k : List D → Prop) : Prop := match d with
  | .ref a => match G a with
    | some (.lst ds) => k ds
    | some (.rol ds) => k ds
    | some (.ftp ds) => k ds
    | _ => False
  | _ => False
theorem prs_of {pins : List (Addr × Obj)} {σ : L2.St} {H : Hp} {s : Shared} (I : Inv X pins σ H s) : ∀ {kvs : List (D × D)} {xs : List V} {its : List Value}, RelDs X.K H (kvs.map fun p => .tup [p.1, p.2]) xs → Vals xs its →
    ∃ (Ts : List Addr) (ps : List (Value × Value)), its = Ts.map Value.ref ∧ ps.length = Ts.length ∧ (∀ (j : Nat) k v, ps[j]? = some (k, v) → ∃ T, Ts[j]? = some T ∧ s.heap.IsTuple T #[k, v]) ∧
      Paired (fun (p : D × D) (q : Value × Value) => ∃ x y, RelV x q.1 ∧ RelV y q.2 ∧ RelD X.K H p.1 x ∧ RelD X.K H p.2 y) kvs ps
  | [], xs, its, r, rv => by
    obtain rfl : xs = [] := r
    cases rv
    exact ⟨[], [], rfl, rfl, fun j k v e => by simp at e, .nil⟩
  | p :: kvs, xs, its, r, rv => by
    obtain ⟨x, xr, rfl, r1, r2⟩ := r
    cases rv with
    | cons h1 h2 =>
      obtain ⟨Ts, ps, e1, e2, e3, e4⟩ := prs_of I r2 h2
      obtain ⟨T, ys, rfl, hq, r3⟩ := r1
      obtain ⟨y1, yr, rfl, g1, r4⟩ := r3
      obtain ⟨y2, yr2, rfl, g2, r5⟩ := r4
      obtain rfl : yr2 = [] := r5
      obtain ⟨us, ru, ht, _⟩ := I.tuple hq
      obtain ⟨u1, u2, rfl, k1, k2⟩ := vals2 ru
      cases h1
      refine ⟨T :: Ts, (u1, u2) :: ps, by rw [e1]; rfl, by rw [List.length_cons, List.length_cons, e2], fun j k v e => ?_, .cons ⟨y1, y2, k1, k2, g1, g2⟩ e4⟩
      cases j with
      | zero =>
        simp only [List.getElem?_cons_zero, Option.some.injEq, Prod.mk.injEq] at e
        obtain ⟨rfl, rfl⟩ := e
        exact ⟨T, rfl, ht⟩
      | succ j => exact e3 j k v (by simpa using e)
def rDictP : RNd := fun ds G q => arg1 ds fun d => prsK d G fun es => ∃ kvs : List (D × D), es = (kvs.map fun p => .tup [p.1, p.2]) ∧ (KeysK kvs ∨ (kvs ≠ [] ∧ keysUp (kvs.map (·.1)))) ∧ newO (.dic (dputs kvs)) q G
theorem krel_puts {W : Wd} {H : Hp} : ∀ {kvs : List (D × D)} {xs : List (Key × V)} {acc : List (D × D)} {ys : List (Key × V)}, Paired (KRel W H) kvs xs → Paired (KRel W H) acc ys →
    Paired (KRel W H) (kvs.foldl (fun acc p => dput acc p.1 p.2) acc) (xs.foldl (fun acc kv => putK acc kv.1 kv.2) ys) := by
  intro kvs xs acc ys r
  induction r generalizing acc ys with
  | nil => exact id
  | cons a t ih =>
    rename_i p q ps qs
    intro h
    rw [List.foldl_cons, List.foldl_cons]
    refine ih ?_
    rw [a.1]
    exact krel_put a.2 h
theorem trel_puts {W : Wd} {H : Hp} : ∀ {kvs : List (D × D)} {xs : List (NestedKey × Addr × Value)} {acc : List (D × D)} {ys : List (NestedKey × Addr × Value)}, Paired (TRel W H) kvs xs → Paired (TRel W H) acc ys →
    Paired (TRel W H) (kvs.foldl (fun acc p => dput acc p.1 p.2) acc) (storedAllH ys xs) := by
  intro kvs xs acc ys r
  induction r generalizing acc ys with
  | nil => exact id
  | cons a t ih =>
    rename_i p q ps qs
    intro h
    show Paired _ (List.foldl _ (dput acc p.1 p.2) ps) (storedAllH (storedH ys q.1 q.2.1 q.2.2) qs)
    refine ih ?_
    obtain ⟨⟨ds, e1⟩, e2, e3, e4, v, e5, e6⟩ := a
    rw [e1] at e2 e4 ⊢
    exact trel_put h e2 e3 e4 e5 e6
theorem dputs_len : ∀ (kvs acc : List (D × D)), (kvs.foldl (fun acc p => dput acc p.1 p.2) acc).length ≤ acc.length + kvs.length
  | [], acc => Nat.le_refl _
  | p :: kvs, acc => by
    have h1 := dputs_len kvs (dput acc p.1 p.2)
    have h2 := dput_len acc p.1 p.2
    rw [List.foldl_cons, List.length_cons]
    omega
theorem dputs_ne : ∀ (kvs acc : List (D × D)), acc ≠ [] ∨ kvs ≠ [] → kvs.foldl (fun acc p => dput acc p.1 p.2) acc ≠ []
  | [], acc, h => h.resolve_right fun z => z rfl
  | p :: kvs, acc, h => by
    rw [List.foldl_cons]
    refine dputs_ne kvs _ (.inl ?_)
    unfold dput
    split
    · rename_i hany
      intro z
      have : acc = [] := List.map_eq_nil_iff.mp z
      rw [this] at hany
      cases hany
    · simp
theorem cd_dictP (hc : X.calm = true) (hu : X.A.units + 64 < cLine) : CallR X (.type "dict") (liftN (wd X) rDictP) := by
  intro pins s σ H xs us Q I r h
  obtain ⟨ds, G, q, rr, hG, h, hw⟩ := h
  obtain ⟨d, v, rfl, rfl, rd, h⟩ := arg1_of h rr
  -- the argument: its items, its type
  have main : ∀ (a : Addr) (es : List D) (ys : List V) (its : List Value), us = [.ref a] → RelDs X.K H es ys → Vals ys its → its.length ≤ sizeLine →
      ((∃ o n, s.heap.get? a = some o ∧ o.cls = .type "list" ∧ o.dict = none ∧ o.data = .seq its.toArray n) ∨ (∃ o n, s.heap.get? a = some o ∧ o.cls = .type "tuple" ∧ o.dict = none ∧ o.data = .seq its.toArray n)) →
      (∃ kvs : List (D × D), es = (kvs.map fun p => .tup [p.1, p.2]) ∧ (KeysK kvs ∨ (kvs ≠ [] ∧ keysUp (kvs.map (·.1)))) ∧ newO (.dic (dputs kvs)) q G) →
      wpAny (model X.prog X.w) X.A (call (.type "dict") us) (EP X pins σ Q) X.xe s := by
    intro a es ys its eu r1 rv hz ho ⟨kvs, e, hk, hq⟩
    subst eu e
    obtain ⟨Ts, ps, e1, e2, e3, e4⟩ := prs_of I r1 rv
    have hpl : kvs.length = ps.length := Paired.length e4
    have hsz : ps.length ≤ sizeLine := by
      rw [e2]
      have := congrArg List.length e1
      rw [List.length_map] at this
      omega
    have items : PairItems s.heap its.toArray (fun j => Ts.getD j 0) ps := by
      refine ⟨by rw [List.size_toArray, e1, List.length_map, e2], fun j k u hj => ?_⟩
      obtain ⟨T, hT, ht⟩ := e3 j k u hj
      have eg : Ts.getD j 0 = T := by rw [List.getD_eq_getElem?_getD, hT]; rfl
      refine ⟨?_, .inl ?_⟩
      · show its.toArray[j]? = some (.ref (Ts.getD j 0))
        rw [eg, List.getElem?_toArray, e1, List.getElem?_map, hT]
        rfl
      · show s.heap.IsTuple (Ts.getD j 0) #[k, u]
        rw [eg]
        exact ht
    have hn : H s.heap.objs.size = none := I.hok.fresh (Nat.le_refl _)
    have hm : (s.heap.objs.size == sysModules) = false := beq_eq_false_iff_ne.mpr (Nat.ne_of_gt I.big)
    have go : ∀ {T : String} {fp wr : List Addr} {OK : Heap → Prop}, PairArg X.prog X.w T a fp wr ps.length (PairRel ps) OK → OK s.heap → wr = [] → wpAny (model X.prog X.w) X.A (call (.type "dict") [.ref a]) (EP X pins σ Q) X.xe s := by
      intro T fp wr OK P ok hwr
      subst hwr
      rcases hk with hk | ⟨hne, hk⟩
      · -- ints, texts
        obtain ⟨zs, k1, k2⟩ : ∃ zs : List (Key × V), Paired (KRel (wd X) H) kvs zs ∧ KV zs (zs.zip ps |>.map fun z => (z.1.1, z.2.2)) ∧ ∀ (j : Nat) (z : Key × V) (pr : Value × Value), zs[j]? = some z → ps[j]? = some pr → RelV (kV z.1) pr.1 := by
          clear P ok items e3 e2 e1 rv r1 hz hq hsz hpl
          induction e4 with
          | nil => exact ⟨[], .nil, .nil, fun j z pr e => by simp at e⟩
          | cons a t ih =>
            rename_i p pr ps' prs'
            obtain ⟨zs, h1, h2, h3⟩ := ih (fun p hp => hk p (List.mem_cons_of_mem _ hp))
            obtain ⟨x, y, g1, g2, g3, g4⟩ := a
            obtain ⟨k, ek⟩ := hk p List.mem_cons_self
            have hx : x = kV k := by
              rw [ek] at g3
              exact (isK_of (k := k) (d := kD k) (by cases k <;> rfl) g3).2
            subst hx
            refine ⟨(k, y) :: zs, .cons ⟨ek, g4⟩ h1, .cons ⟨rfl, g2⟩ h2, fun j z pr' ez ep => ?_⟩
            cases j with
            | zero =>
              simp only [List.getElem?_cons_zero, Option.some.injEq] at ez ep
              subst ez ep
              exact g1
            | succ j => exact h3 j z pr' (by simpa using ez) (by simpa using ep)
        obtain ⟨k2, k3⟩ := k2
        have hzl : zs.length = ps.length := by rw [← Paired.length k1, hpl]
        refine call_dict_pairs (knd := mixKind X.prog X.w) P (I.ok.hd hc) ok (kvs := zs.zip ps |>.map fun z => (z.1.1, z.2.2)) ⟨by rw [List.length_map, List.length_zip]; omega, fun j key u hj => ?_⟩ hsz fun h' tk hd' hkp => ?_
        · have hjl := (List.getElem?_eq_some_iff.mp hj).1
          obtain ⟨z, hz'⟩ : ∃ z, zs[j]? = some z := ⟨_, List.getElem?_eq_getElem (by omega)⟩
          refine ⟨z.1, ?_, ?_⟩
          · have ez : (zs.zip ps)[j]? = some (z, (key, u)) := List.getElem?_zip_eq_some.mpr ⟨hz', hj⟩
            rw [List.getElem?_map, ez]
            rfl
          · exact kV_is (P := X.prog) (w := X.w) (k3 j z _ hz' hj)
        · have hlen : (mergeK [] zs).length ≤ sizeLine := by
            refine Nat.le_trans (length_mergeK zs []) ?_
            rw [List.length_nil, Nat.zero_add, hzl]
            exact hsz
          have tk2 : Tk X.K H (upd H s.heap.objs.size (.dK (mergeK [] zs))) := Tk.new hn
          have J := I.laid (o := .dK (mergeK [] zs)) (t' := tk) (fun b o e => hkp b o (fun z => nomatch z) e) (Nat.le_refl _) (show ObjOk X.prog X.w _ _ _ (.dK (mergeK [] zs)) from ⟨hlen, hm, merged [] _, KV.merge k2 .nil, hd'⟩)
          refine ⟨.ref s.heap.objs.size, _, J, rfl, hw _ _ (.ref _) _ tk2 (hG.upd (m := .dic (dputs kvs)) tk2 (.inl ⟨_, upd_same, ?_⟩)) rfl (hq _ (hG.none hn))⟩
          exact krel_puts (Paired.mapP k1 fun _ _ z => ⟨z.1, z.2.mono tk2⟩) .nil
      · -- tuples
        obtain ⟨zs, k1, k3⟩ : ∃ zs : List (NestedKey × Addr × Value), Paired (TRel (wd X) H) kvs zs ∧ zs.length = ps.length ∧ ∀ (j : Nat) (pr : Value × Value), ps[j]? = some pr → ∃ k b, zs[j]? = some (k, b, pr.2) ∧ pr.1 = .ref b := by
          clear P ok items e3 e2 e1 rv r1 hz hq hsz hpl hne
          induction e4 with
          | nil => exact ⟨[], .nil, rfl, fun j pr e => by simp at e⟩
          | cons a t ih =>
            rename_i p pr ps' prs'
            obtain ⟨zs, h1, h0, h2⟩ := ih (fun d hd => hk d (List.mem_cons_of_mem _ hd))
            obtain ⟨x, y, g1, g2, g3, g4⟩ := a
            obtain ⟨⟨es, ee⟩, k, ek, hd⟩ := hk p.1 List.mem_cons_self
            have g3' := g3
            rw [ee] at g3'
            obtain ⟨b, zs', rfl, _, _⟩ := g3'
            refine ⟨(k, b, pr.2) :: zs, .cons ⟨⟨es, ee⟩, ek, hd, g3, y, g2, g4⟩ h1, by rw [List.length_cons, List.length_cons, h0], fun j pr' ep => ?_⟩
            cases j with
            | zero =>
              simp only [List.getElem?_cons_zero, Option.some.injEq] at ep
              subst ep
              exact ⟨k, b, rfl, g1⟩
            | succ j => exact h2 j pr' (by simpa using ep)
        obtain ⟨k3, k4⟩ := k3
        have his : ∀ z ∈ zs, (nestedKind X.prog X.w).is s.heap z.1 z.2.1 := by
          intro z hz'
          obtain ⟨j, hj⟩ := List.mem_iff_getElem?.mp hz'
          obtain ⟨p, hp, rel⟩ := paired_get k1 hj
          obtain ⟨⟨es, e5⟩, e6, e7, e8, _⟩ := rel
          rw [e5] at e6 e8
          exact tupKey I e8 e6 e7
        refine call_dict_pairsH (knd := nestedKind X.prog X.w) P (I.ok.hd hc) (show X.A.units + 1 + 1 + 8 < cLine by omega) ok (ps := zs) ⟨k3, fun j key u hj => ?_⟩ (fun h' hkp z hz' => ?_) hsz fun h' tk hd' hkp => ?_
        · exact k4 j (key, u) hj
        · exact ⟨NestedIs.at (fun c ob vs n hb _ => hkp c ob (Nat.ne_of_lt (Heap.lt_size hb)) (fun z => nomatch z) hb) _ _ (his z hz').1, (his z hz').2⟩
        · obtain ⟨o, oes, oep, ho1, hc1, hd1, he1, hks, hnd⟩ := hd'
          have tk2 : Tk X.K H (upd H s.heap.objs.size (.ext (OwnD (wd X) s.heap.objs.size (storedAllH [] zs)))) := Tk.new hn
          have new : ObjOk X.prog X.w (upd H s.heap.objs.size (.ext (OwnD (wd X) s.heap.objs.size (storedAllH [] zs)))) h' s.heap.objs.size (.ext (OwnD (wd X) s.heap.objs.size (storedAllH [] zs))) := by
            refine ⟨⟨o, oes, oep, ho1, hc1, hd1, he1⟩, ⟨o, ho1⟩, fun g1 g2 p k => ?_⟩
            obtain ⟨o1, es1, ep1, ho2, r2⟩ := p
            exact ⟨o1, es1, ep1, k _ ho2, r2⟩
          have J := I.laid (t' := tk) (fun b o e => hkp b o (fun z => nomatch z) e) (Nat.le_refl _) new
          have hlen := dputs_len kvs []
          refine ⟨.ref s.heap.objs.size, _, J, rfl, hw _ _ (.ref _) _ tk2 (hG.upd (m := .dic (dputs kvs)) tk2 (.inr ⟨_, upd_same, ?_, hnd, hm, ?_, dputs_ne kvs [] (.inr hne)⟩)) rfl (hq _ (hG.none hn))⟩
          · exact trel_puts (Paired.mapP k1 fun _ _ z => z.mono tk2) .nil
          · show (dputs kvs).length ≤ sizeLine
            unfold dputs
            rw [List.length_nil, Nat.zero_add] at hlen
            omega
    rcases ho with ⟨o, n, a1, a2, a3, a4⟩ | ⟨o, n, a1, a2, a3, a4⟩
    · exact go (PairArg.list a its.toArray (fun j => Ts.getD j 0) ps) ⟨⟨o, n, a1, a2, a3, a4⟩, items⟩ rfl
    · exact go (PairArg.tuple a its.toArray (fun j => Ts.getD j 0) ps) ⟨⟨o, n, a1, a2, a3, a4⟩, items⟩ rfl
  cases d with
  | ref a =>
    obtain rfl : v = .ref a := rd
    have eu := Vals.ref1 r
    have h : (match G a with
      | some (.lst ds) => (fun es => ∃ kvs : List (D × D), es = (kvs.map fun p => .tup [p.1, p.2]) ∧ (KeysK kvs ∨ (kvs ≠ [] ∧ keysUp (kvs.map (·.1)))) ∧ newO (.dic (dputs kvs)) q G) ds
      | some (.rol ds) => (fun es => ∃ kvs : List (D × D), es = (kvs.map fun p => .tup [p.1, p.2]) ∧ (KeysK kvs ∨ (kvs ≠ [] ∧ keysUp (kvs.map (·.1)))) ∧ newO (.dic (dputs kvs)) q G) ds
      | some (.ftp ds) => (fun es => ∃ kvs : List (D × D), es = (kvs.map fun p => .tup [p.1, p.2]) ∧ (KeysK kvs ∨ (kvs ≠ [] ∧ keysUp (kvs.map (·.1)))) ∧ newO (.dic (dputs kvs)) q G) ds
      | _ => False) := h
    cases ea : G a with
    | none => rw [ea] at h; exact h.elim
    | some m =>
      rw [ea] at h
      have hm := hG a m ea
      have lst : ∀ es, (∃ ys, SqL X.K H a ys ∧ RelDs X.K H es ys) → (∃ kvs : List (D × D), es = (kvs.map fun p => .tup [p.1, p.2]) ∧ (KeysK kvs ∨ (kvs ≠ [] ∧ keysUp (kvs.map (·.1)))) ∧ newO (.dic (dputs kvs)) q G) → wpAny (model X.prog X.w) X.A (call (.type "dict") us) (EP X pins σ Q) X.xe s := by
        intro es ⟨ys, hq, r1⟩ h
        obtain ⟨its, rv, ⟨o, n, a1, a2, a3, a4⟩, hz⟩ := I.list hq
        exact main a es ys its eu r1 rv (by rw [← rv.length]; exact hz) (.inl ⟨o, n, a1, a2, a3, a4⟩) h
      cases m with
      | lst es =>
        obtain ⟨ys, e1, r1⟩ := hm
        exact lst es ⟨ys, SqL.of e1, r1⟩ h
      | rol es =>
        obtain ⟨ys, e1, r1⟩ := hm
        exact lst es ⟨ys, .inl e1, r1⟩ h
      | ftp es =>
        obtain ⟨ob, ys, e1, hd, r1⟩ := hm
        obtain ⟨a1, hz, its, rv, o, a2, a3, n, a4⟩ := (show ObjOk X.prog X.w H s.heap a (.frz ob (.tup ys)) from I.hok a _ e1)
        have eo : ob = o := by
          rw [a1] at a2
          exact Option.some.inj a2
        subst eo
        exact main a es ys its eu r1 rv (by rw [← rv.length]; exact hz) (.inr ⟨ob, n, a1, a3, hd, a4⟩) h
      | _ => exact h.elim
  | _ => exact h.elim
/-! ### a dict as written -/
def dPairs : List (TD × TD) → Sd → Gp → (List (D × D) → Gp → Prop) → Prop
  | [], _, G, q => q [] G
  | (tk, tv) :: r, σ, G, q => tk σ G fun k G1 => tv σ G1 fun v G2 => dPairs r σ G2 fun ps G3 => q ((k, v) :: ps) G3
/-- pairs of expressions -/
inductive QPs (X : Cx) (pos : Pos) : List (Option Expr) → List Expr → List (TD × TD) → Prop where
  | nil : QPs X pos [] [] []
  | cons {k v : Expr} {ks : List (Option Expr)} {vs : List Expr} {tk tv : TD} {trs : List (TD × TD)} : QE X k tk → QE X v tv → QPs X pos ks vs trs → QPs X pos (some k :: ks) (v :: vs) ((tk, tv) :: trs)
theorem QPs.pps {pos : Pos} {ks : List (Option Expr)} {vs : List Expr} {trs : List (TD × TD)} (h : QPs X pos ks vs trs) : PPs X pos ks vs (trs.map fun t => (lift (wd X) t.1, lift (wd X) t.2)) := by
  induction h with
  | nil => exact pps_nil
  | cons hk hv _ ih => exact pps_cons hk hv ih
theorem lift_pairs {W : Wd} {σ : L2.St} {σd : Sd} : ∀ {trs : List (TD × TD)} {H : Hp} {G : Gp} {q : List (D × D) → Gp → Prop} {Q : List (V × V) → Hp → Prop}, AbsS W H σ σd → AbsH W H G → dPairs trs σd G q →
    (∀ ps H' ds G', Tk W.K H H' → AbsH W H' G' → Paired (fun (p : V × V) (d : D × D) => RelD W.K H' d.1 p.1 ∧ RelD W.K H' d.2 p.2) ps ds → q ds G' → Q ps H') → tPairs (trs.map fun t => (lift W t.1, lift W t.2)) σ H Q
  | [], H, G, q, Q, hS, hG, h, hw => hw [] H [] G Tk.refl hG .nil h
  | (tk, tv) :: trs, H, G, q, Q, hS, hG, h, hw => ⟨σd, G, _, hS, hG, h, fun x H1 k G1 t1 hG1 rk h1 => ⟨σd, G1, _, hS.mono t1, hG1, h1, fun y H2 v G2 t2 hG2 rv h2 =>
      lift_pairs ((hS.mono t1).mono t2) hG2 h2 fun ps H3 ds G3 t3 hG3 rr h3 => hw _ H3 _ G3 ((t1.trans t2).trans t3) hG3 (.cons ⟨rk.mono (t2.trans t3), rv.mono t3⟩ rr) h3⟩⟩
theorem pairs_K {W : Wd} {H : Hp} : ∀ {ps : List (V × V)} {ds : List (D × D)}, Paired (fun (p : V × V) (d : D × D) => RelD W.K H d.1 p.1 ∧ RelD W.K H d.2 p.2) ps ds → KeysK ds → ∃ kvs : List (Key × V), ps = kvs.map (fun kv => (kV kv.1, kv.2)) ∧ Paired (KRel W H) ds kvs
  | _, _, .nil, _ => ⟨[], rfl, .nil⟩
  | pv :: _, d :: _, .cons a t, hk => by
    obtain ⟨kvs, e1, k1⟩ := pairs_K t fun d hd => hk d (List.mem_cons_of_mem _ hd)
    obtain ⟨k, ek⟩ := hk d List.mem_cons_self
    have hx : pv.1 = kV k := (isK_of (k := k) (d := kD k) (by cases k <;> rfl) (ek ▸ a.1)).2
    exact ⟨(k, pv.2) :: kvs, by rw [List.map_cons, ← e1, ← hx], .cons ⟨ek, a.2⟩ k1⟩
def dDisp (trs : List (TD × TD)) : TD := fun σ G q => ∀ p, G p = none → dPairs trs σ (gup G p (.dic [])) fun ps G1 => G1 p = some (.dic []) ∧ KeysK ps ∧ ps.length ≤ 15 ∧ q (.ref p) (gup G1 p (.dic (dputs ps)))
theorem qe_disp {pos : Pos} {keys : List (Option Expr)} {values : List Expr} {trs : List (TD × TD)} (h : QPs X pos keys values trs) (hall : keys.all (·.isSome) = true := by rfl) (hl : keys.length = values.length := by rfl) (h0 : keys ≠ [] := by simp)
    (h15 : keys.length ≤ 15 := by decide) : QE X (.Dict keys values pos) (dDisp trs) :=
  PE.imp (pe_disp h.pps hall hl h0 h15) fun σ H Q ⟨σd, G, q, hS, hG, h, hw⟩ p hp => by
    have t0 : Tk X.K H (upd H p (.dK [])) := Tk.new hp
    refine lift_pairs (hS.mono t0) (hG.upd (m := .dic []) t0 (.inl ⟨[], upd_same, .nil⟩)) (h p (hG.none hp)) fun ps H2 ds G2 t2 hG2 rr ⟨e2, hk, hl2, h2⟩ => ?_
    have e3 : H2 p = some (.dK []) := by
      rcases hG2 p _ e2 with ⟨xs, e, r⟩ | ⟨xs, h⟩
      · cases r
        exact e
      · exact absurd rfl h.ne
    refine ⟨e3, ?_⟩
    obtain ⟨kvs, e4, k1⟩ := pairs_K rr hk
    have t3 : Tk X.K H2 (upd H2 p (.dK (mergeK [] kvs))) := Tk.set e3 trivial
    refine ⟨kvs, e4, by rw [← Paired.length k1]; exact hl2, hw _ _ (.ref p) _ ((t0.trans t2).trans t3) (hG2.upd (m := .dic (dputs ds)) t3 (.inl ⟨_, upd_same, ?_⟩)) rfl h2⟩
    exact krel_puts (Paired.mapP k1 fun _ _ z => ⟨z.1, z.2.mono t3⟩) .nil
end
end DL
/-! ZP: list(zip(a, b)) of two lists, of two tuples. -/
namespace DL
open PySem PySem.Spec PyProof.Rows L2
section
variable {P : Program} {w : World}
/-- an iterator i over the items xs of l: It k: k items are drawn -/
structure Drw (P : Program) (w : World) (i l : Addr) (xs : Array Value) (It : Nat → Heap → Prop) (Sq : Heap → Prop) : Prop where
  item : ∀ (A : Around) (E : Value → Shared → Prop) (s : Shared) (k : Nat) (x : Value) (Q : Value → Shared → Prop), It k s.heap → Sq s.heap → xs[k]? = some x → (∀ h', It (k + 1) h' → Heap.SameBut i s.heap h' → Q x { s with heap := h' }) → wpAny (model P w) A (Builtin.SmallTypes.nextOf (.ref i)) Q E s
  stop : ∀ (A : Around) (E : Value → Shared → Prop) (s : Shared) (k : Nat) (Q : Value → Shared → Prop), A.handled = none → It k s.heap → Sq s.heap → xs[k]? = none → (∀ h' e, Heap.ExtBut i s.heap h' → (∃ o, h'.get? e = some o ∧ o.cls = .type "StopIteration") → E (.ref e) { s with heap := h' }) → wpAny (model P w) A (Builtin.SmallTypes.nextOf (.ref i)) Q E s
  keepI : ∀ (k : Nat) (h h' : Heap), It k h → (∀ o, h.get? i = some o → h'.get? i = some o) → It k h'
  keepS : ∀ (h h' : Heap), Sq h → (∀ o, h.get? l = some o → h'.get? l = some o) → Sq h'
theorem Drw.list (i l : Addr) (xs : Array Value) : Drw P w i l xs (fun k h => h.IsListIter i l k) (fun h => h.IsList l xs) where
  item := fun A E s k x Q h1 h2 hx q => wpAny_nextOf_list_item h1 h2 hx q
  stop := fun A E s k Q hh h1 h2 hx q => wpAny_nextOf_list_end hh h1 h2 hx q
  keepI := fun k h h' ⟨o, ho, r⟩ e => ⟨o, e o ho, r⟩
  keepS := fun h h' ⟨o, ho, r⟩ e => ⟨o, e o ho, r⟩
theorem Drw.tuple (i l : Addr) (xs : Array Value) : Drw P w i l xs (fun k h => h.IsTupleIter i l k) (fun h => h.IsTuple l xs) where
  item := fun A E s k x Q h1 h2 hx q => RZ.nextOf_tuple_item h1 h2 hx q
  stop := fun A E s k Q hh h1 h2 hx q => RZ.nextOf_tuple_end hh h1 h2 hx q
  keepI := fun k h h' ⟨o, ho, r⟩ e => ⟨o, e o ho, r⟩
  keepS := fun h h' ⟨o, ho, r⟩ e => ⟨o, e o ho, r⟩
variable {A : Around} {E : Value → Shared → Prop} {s : Shared} {z TI TO T i1 i2 l1 l2 : Addr} {f : Bool} {oT : Obj} {xs ys : Array Value} {It1 It2 : Nat → Heap → Prop} {Sq1 Sq2 : Heap → Prop} {k : Nat}
theorem zipD_item (D : ZipApart z TI TO i1 i2 l1 l2) (D1 : Drw P w i1 l1 xs It1 Sq1) (D2 : Drw P w i2 l2 ys It2 Sq2) {x y : Value} {Q : Option Value → Shared → Prop}
    (hz : IsZipHeld s.heap z TI TO T f) (hT : s.heap.get? T = some oT) (hTI : IsPair s.heap TI (.ref i1) (.ref i2))
    (h1 : It1 k s.heap) (h2 : It2 k s.heap) (hl1 : Sq1 s.heap) (hl2 : Sq2 s.heap) (hx : xs[k]? = some x) (hy : ys[k]? = some y)
    (hQ : ∀ h', IsZipHeld h' z TI TO T true → It1 (k + 1) h' → It2 (k + 1) h' → IsPair h' s.heap.objs.size x y → h'.objs.size = s.heap.objs.size + 1 →
      (∀ c o, c ≠ z → c ≠ i1 → c ≠ i2 → s.heap.get? c = some o → h'.get? c = some o) → Q (some (.ref s.heap.objs.size)) { s with heap := h' }) :
    wpAny (model P w) A (pyNext (.ref z)) Q E s := by
  have hTy : s.TypeIs (.ref z) "zip" := ⟨_, hz, rfl⟩
  have core : wpAny (model P w) (A.under (.builtin "zip.__next__" ⟨[.ref z], []⟩)) (Builtin.«zip.__next__» ⟨[.ref z], []⟩) (fun fin s' => ∃ v, fin = .done (.ret v) ∧ (∃ u, v = u ∧ Q (some u) s')) (fun _ _ => False) s → True := fun _ => trivial
  have go : ∀ (A : Around) (E : Value → Shared → Prop) {Q' : Value → Shared → Prop}, (∀ h', IsZipHeld h' z TI TO T true → It1 (k + 1) h' → It2 (k + 1) h' → IsPair h' s.heap.objs.size x y → h'.objs.size = s.heap.objs.size + 1 →
      (∀ c o, c ≠ z → c ≠ i1 → c ≠ i2 → s.heap.get? c = some o → h'.get? c = some o) → Q' (.ref s.heap.objs.size) { s with heap := h' }) → wpAny (model P w) A (Builtin.«zip.__next__» ⟨[.ref z], []⟩) (fun fin s' => ∃ v, fin = .done (.ret v) ∧ Q' v s') E s := by
    intro A E Q' hQ
    show wpAny _ _ (field (.ref z) 2 >>= _) _ _ _
    refine wpAny_bind (wpAny_field hz rfl (x := .bool false) rfl ?_)
    show wpAny _ _ (field (.ref z) 3 >>= _) _ _ _
    refine wpAny_bind (wpAny_field hz rfl (x := .ref TI) rfl (wpAny_bind (wpAny_seqItems hTI rfl ?_)))
    show wpAny _ _ (Builtin.SmallTypes.ownedTupleIsFree (.ref z) >>= _) _ _ _
    refine wpAny_bind (wpAny_tupleHeld_zip hz hT fun g1 z1 b1 => ?_)
    simp only [Bool.false_eq_true, if_false]
    refine wpAny_bind ?_
    rw [← Array.forIn_toList]
    simp only [List.forIn_cons, List.forIn_nil]
    refine wpAny_bind (wpAny_bind (wpAny_holding ?_))
    show wpAny _ _ (Builtin.SmallTypes.nextOf (.ref i1) >>= _) _ _ _
    have k1 : ∀ c o, c ≠ z → s.heap.get? c = some o → g1.get? c = some o := fun c o hc e => b1.extBut _ _ hc e
    refine wpAny_bind (D1.item _ _ { s with heap := g1 } k x _ (D1.keepI _ _ _ h1 fun o e => k1 _ _ D.i1z e) (D1.keepS _ _ hl1 fun o e => k1 _ _ D.l1z e) hx fun g2 j1 b2 => wpAny_pure (wpAny_pure ?_))
    have k2 : ∀ c o, c ≠ z → c ≠ i1 → s.heap.get? c = some o → g2.get? c = some o := fun c o hc hd e => b2.extBut _ _ hd (k1 c o hc e)
    refine wpAny_bind (wpAny_bind (wpAny_holding ?_))
    show wpAny _ _ (Builtin.SmallTypes.nextOf (.ref i2) >>= _) _ _ _
    refine wpAny_bind (D2.item _ _ { s with heap := g2 } k y _ (D2.keepI _ _ _ h2 fun o e => k2 _ _ D.i2z D.i12.symm e) (D2.keepS _ _ hl2 fun o e => k2 _ _ D.l2z D.l2i1 e) hy fun g3 j2 b3 => wpAny_pure (wpAny_pure (wpAny_pure ?_)))
    show wpAny _ _ (newTuple [x, y] >>= _) _ _ _
    refine wpAny_bind (wpAny_newTuple ?_)
    have hsz : g3.objs.size = s.heap.objs.size := by rw [b3.1, b2.1, b1.1]
    have z3 : IsZipHeld g3 z TI TO T true := b3.extBut _ _ D.i2z.symm (b2.extBut _ _ D.i1z.symm z1)
    have j3 : It1 (k + 1) g3 := D1.keepI _ _ _ j1 fun o e => b3.extBut _ _ D.i12 e
    refine wpAny_pure ⟨_, rfl, ?_⟩
    show Q' (.ref g3.objs.size) _
    have hp : IsPair (g3.push { cls := .type "tuple", data := .seq #[x, y] }) g3.objs.size x y := Heap.get?_push_size _ rfl
    have h4 : (g3.push { cls := .type "tuple", data := .seq #[x, y] }).objs.size = g3.objs.size + 1 := Heap.size_push ..
    rw [hsz] at hp h4 ⊢
    exact hQ _ (Heap.get?_push_of_some _ z3) (D1.keepI _ _ _ j3 fun o e => Heap.get?_push_of_some _ e) (D2.keepI _ _ _ j2 fun o e => Heap.get?_push_of_some _ e) hp h4 fun c o c1 c2 c3 e => Heap.get?_push_of_some _ (b3.extBut _ _ c3 (k2 c o c1 c2 e))
  unfold pyNext
  exact wpAny_bind (wpAny_attempt (wpAny_callSpecial?_slot (name := Str.ofString "__next__") hTy F.slot_zip_next
    (wpAny_call_entry F.slot_zip_next hTy F.entry_zip_next (go _ _ fun h' a1 a2 a3 a4 a5 a6 => wpAny_pure (hQ h' a1 a2 a3 a4 a5 a6)) (F.args_zip_next_1 _))))
theorem zipD_end (hh : A.handled = none) (D : ZipApart z TI TO i1 i2 l1 l2) (D1 : Drw P w i1 l1 xs It1 Sq1) (D2 : Drw P w i2 l2 ys It2 Sq2) {Q : Option Value → Shared → Prop}
    (hz : IsZipHeld s.heap z TI TO T f) (hT : s.heap.get? T = some oT) (hTI : IsPair s.heap TI (.ref i1) (.ref i2))
    (h1 : It1 k s.heap) (h2 : It2 k s.heap) (hl1 : Sq1 s.heap) (hl2 : Sq2 s.heap) (hend : xs[k]? = none ∨ ys[k]? = none)
    (hQ : ∀ h', (∀ c o, c ≠ z → c ≠ i1 → c ≠ i2 → s.heap.get? c = some o → h'.get? c = some o) → Q none { s with heap := h' }) : wpAny (model P w) A (pyNext (.ref z)) Q E s := by
  have hTy : s.TypeIs (.ref z) "zip" := ⟨_, hz, rfl⟩
  have go : ∀ (A : Around) (E : Value → Shared → Prop) {Q' : PySem.Fin → Shared → Prop}, A.handled = none → (∀ h' e, (∀ c o, c ≠ z → c ≠ i1 → c ≠ i2 → s.heap.get? c = some o → h'.get? c = some o) → (∃ o, h'.get? e = some o ∧ o.cls = .type "StopIteration") → E (.ref e) { s with heap := h' }) →
      wpAny (model P w) A (Builtin.«zip.__next__» ⟨[.ref z], []⟩) Q' E s := by
    intro A E Q' hh hE
    show wpAny _ _ (field (.ref z) 2 >>= _) _ _ _
    refine wpAny_bind (wpAny_field hz rfl (x := .bool false) rfl ?_)
    show wpAny _ _ (field (.ref z) 3 >>= _) _ _ _
    refine wpAny_bind (wpAny_field hz rfl (x := .ref TI) rfl (wpAny_bind (wpAny_seqItems hTI rfl ?_)))
    show wpAny _ _ (Builtin.SmallTypes.ownedTupleIsFree (.ref z) >>= _) _ _ _
    refine wpAny_bind (wpAny_tupleHeld_zip hz hT fun g1 z1 b1 => ?_)
    simp only [Bool.false_eq_true, if_false]
    refine wpAny_bind ?_
    rw [← Array.forIn_toList]
    simp only [List.forIn_cons, List.forIn_nil]
    refine wpAny_bind (wpAny_bind (wpAny_holding ?_))
    show wpAny _ _ (Builtin.SmallTypes.nextOf (.ref i1) >>= _) _ _ _
    have k1 : ∀ c o, c ≠ z → s.heap.get? c = some o → g1.get? c = some o := fun c o hc e => b1.extBut _ _ hc e
    cases hx : xs[k]? with
    | none =>
      refine wpAny_bind (D1.stop _ _ { s with heap := g1 } k _ hh (D1.keepI _ _ _ h1 fun o e => k1 _ _ D.i1z e) (D1.keepS _ _ hl1 fun o e => k1 _ _ D.l1z e) hx fun g2 e b2 he => ?_)
      exact hE g2 e (fun c o c1 c2 _ q => b2 _ _ c2 (k1 _ _ c1 q)) he
    | some x =>
      have hy : ys[k]? = none := by
        rcases hend with h | h
        · rw [hx] at h; cases h
        · exact h
      refine wpAny_bind (D1.item _ _ { s with heap := g1 } k x _ (D1.keepI _ _ _ h1 fun o e => k1 _ _ D.i1z e) (D1.keepS _ _ hl1 fun o e => k1 _ _ D.l1z e) hx fun g2 j1 b2 => wpAny_pure (wpAny_pure ?_))
      have k2 : ∀ c o, c ≠ z → c ≠ i1 → s.heap.get? c = some o → g2.get? c = some o := fun c o hc hd e => b2.extBut _ _ hd (k1 c o hc e)
      refine wpAny_bind (wpAny_bind (wpAny_holding ?_))
      show wpAny _ _ (Builtin.SmallTypes.nextOf (.ref i2) >>= _) _ _ _
      refine wpAny_bind (D2.stop _ _ { s with heap := g2 } k _ hh (D2.keepI _ _ _ h2 fun o e => k2 _ _ D.i2z D.i12.symm e) (D2.keepS _ _ hl2 fun o e => k2 _ _ D.l2z D.l2i1 e) hy fun g3 e b3 he => ?_)
      exact hE g3 e (fun c o c1 c2 c3 q => b3 _ _ c3 (k2 _ _ c1 c2 q)) he
  unfold pyNext
  refine wpAny_bind (wpAny_attempt (wpAny_callSpecial?_slot (name := Str.ofString "__next__") hTy F.slot_zip_next
    (wpAny_call_entry F.slot_zip_next hTy F.entry_zip_next (go _ _ hh fun h' e hk he => ?_) (F.args_zip_next_1 _))))
  obtain ⟨o, ho, hc⟩ := he
  exact wpAny_bind (wpAny_isInstance (T := "StopIteration") (b := true) ⟨o, ho, hc⟩ isSubtype_stop (wpAny_pure (hQ _ hk)))
end
end DL
/-! ZP2: list(zip(a, b)). -/
namespace DL
open PySem PySem.Spec PySem.W PyProof.Rows L2
section
variable {P : Program} {w : World}
theorem zip_len_none : typeLookup (.type "zip") "__len__" = pure none := am_miss_of_fast (by decide +kernel)
theorem zip_hint_none : typeLookup (.type "zip") "__length_hint__" = pure none := am_miss_of_fast (by decide +kernel)
theorem hint_zip {A : Around} {E : Value → Shared → Prop} {s : Shared} {z : Addr} (hT : s.TypeIs (.ref z) "zip") {Q : Bool → Shared → Prop} (h : Q true s) : wpAny (model P w) A (Builtin.List.listLengthHint (.ref z)) Q E s := by
  unfold Builtin.List.listLengthHint
  refine wpAny_bind (wpAny_specialOf hT zip_len_none ?_)
  refine wpAny_ite_split (fun hab => absurd hab (by decide)) (fun _ => ?_)
  refine wpAny_ite_split (fun hab => absurd hab (by decide)) (fun _ => ?_)
  refine wpAny_bind (wpAny_specialOf hT zip_hint_none ?_)
  exact wpAny_pure h
/-- before the item i; S: the list that is filled -/
structure ZS (z TI TO i1 i2 : Addr) (It1 It2 : Nat → Heap → Prop) (Sq1 Sq2 : Heap → Prop) (S : Addr) (i : Nat) (h : Heap) : Prop where
  ti : IsPair h TI (.ref i1) (.ref i2)
  it1 : It1 i h
  it2 : It2 i h
  sq1 : Sq1 h
  sq2 : Sq2 h
  zz : (i = 0 ∧ IsZip h z TI TO .none ∧ ∃ a b, IsPair h TO a b) ∨ ∃ T f oT, IsZipHeld h z TI TO T f ∧ h.get? T = some oT ∧ T ≠ S ∧ T ≠ z ∧ T ≠ i1 ∧ T ≠ i2
/-- the very first turn -/
structure Fst (P : Program) (w : World) (z TI TO i1 i2 : Addr) (xs ys : Array Value) (It1 It2 : Nat → Heap → Prop) (Sq1 Sq2 : Heap → Prop) : Prop where
  item : ∀ (A : Around) (E : Value → Shared → Prop) (s : Shared) (x y a b : Value) (Q : Option Value → Shared → Prop), IsZip s.heap z TI TO .none → IsPair s.heap TI (.ref i1) (.ref i2) → IsPair s.heap TO a b → It1 0 s.heap → It2 0 s.heap → Sq1 s.heap → Sq2 s.heap → xs[0]? = some x → ys[0]? = some y →
    (∀ h', IsZip h' z TI TO (rawInt s.heap.objs.size) → It1 1 h' → It2 1 h' → IsPair h' s.heap.objs.size x y → h'.objs.size = s.heap.objs.size + 1 →
      (∀ c o, c ≠ z → c ≠ TO → c ≠ i1 → c ≠ i2 → s.heap.get? c = some o → h'.get? c = some o) → Q (some (.ref s.heap.objs.size)) { s with heap := h' }) → wpAny (model P w) A (pyNext (.ref z)) Q E s
  stop : ∀ (A : Around) (E : Value → Shared → Prop) (s : Shared) (a b : Value) (Q : Option Value → Shared → Prop), A.handled = none → IsZip s.heap z TI TO .none → IsPair s.heap TI (.ref i1) (.ref i2) → IsPair s.heap TO a b → It1 0 s.heap → It2 0 s.heap → Sq1 s.heap → Sq2 s.heap → xs[0]? = none ∨ ys[0]? = none →
    (∀ h', (∀ c o, c ≠ z → c ≠ TO → c ≠ i1 → c ≠ i2 → s.heap.get? c = some o → h'.get? c = some o) → Q none { s with heap := h' }) → wpAny (model P w) A (pyNext (.ref z)) Q E s
/-- the tuples that were handed out -/
structure ZG (xs ys : Array Value) (lo : Addr) (h : Heap) (as : List Addr) : Prop where
  rise : as.Pairwise (· < ·)
  above : ∀ a ∈ as, lo < a
  pairs : ∀ (j : Nat) (a : Addr), as[j]? = some a → ∃ x y, xs[j]? = some x ∧ ys[j]? = some y ∧ IsPair h a x y
variable {A : Around} {s : Shared} {z TI TO i1 i2 l1 l2 S : Addr} {xs ys : Array Value} {It1 It2 : Nat → Heap → Prop} {Sq1 Sq2 : Heap → Prop} {R : Result → Shared → Prop}
theorem zip_loop (hh : A.handled = none) (D : ZipApart z TI TO i1 i2 l1 l2) (D1 : Drw P w i1 l1 xs It1 Sq1) (D2 : Drw P w i2 l2 ys It2 Sq2) (F : Fst P w z TI TO i1 i2 xs ys It1 It2 Sq1 Sq2)
    (hS : S ≠ z ∧ S ≠ TI ∧ S ≠ TO ∧ S ≠ i1 ∧ S ≠ i2 ∧ S ≠ l1 ∧ S ≠ l2) (hlt : z < S ∧ TO < S ∧ i1 < S ∧ i2 < S) (hl : xs.size = ys.size) (hn : xs.size ≤ sizeLine) (res : Value) {h₁ : Heap}
    (hR : ∀ h' tk acc c as, (∀ b o, b ≠ S → b ≠ z → b ≠ TO → b ≠ i1 → b ≠ i2 → h₁.get? b = some o → h'.get? b = some o) → h'.get? S = some { cls := .type "list", dict := none, data := .seq acc c, slots := #[] } → as.length = xs.size → ZG xs ys S h' as →
      acc.toList = as.map Value.ref → R (.ok (.ret res)) { s with heap := h', toks := tk }) :
    ∀ (m i : Nat) (h : Heap) (tk c : Nat) (acc : Array Value) (as : List Addr), xs.size - i = m → i ≤ xs.size → ZS z TI TO i1 i2 It1 It2 Sq1 Sq2 S i h → (∀ b o, b ≠ S → b ≠ z → b ≠ TO → b ≠ i1 → b ≠ i2 → h₁.get? b = some o → h.get? b = some o) →
      h.get? S = some { cls := .type "list", dict := none, data := .seq acc c, slots := #[] } → acc.toList = as.map Value.ref → as.length = i → ZG xs ys S h as →
      codeAny (model P w) A (.builtin "list.extend.loop" ⟨[.ref S, .ref z, res], []⟩) R { s with heap := h, toks := tk } := by
  obtain ⟨sz, sTI, sTO, s1, s2, sl1, sl2⟩ := hS
  obtain ⟨lz, lTO, li1, li2⟩ := hlt
  intro m
  induction m with
  | zero =>
    intro i h tk c acc as hm hi st hkeep hS hacc hal hG
    have hin : i = xs.size := by omega
    have hend : xs[i]? = none ∨ ys[i]? = none := .inl (by rw [Array.getElem?_eq_none_iff]; omega)
    refine codeAny_builtin PySem.F.entry_extend_loop ?_
    rw [Around.under_plainId PySem.F.plain_extend_loop _]
    show wpAny _ A.in1 (pyNext (.ref z) >>= _) _ _ _
    have fin : ∀ h', (∀ c o, c ≠ z → c ≠ TO → c ≠ i1 → c ≠ i2 → h.get? c = some o → h'.get? c = some o) → R (.ok (.ret res)) { s with heap := h', toks := tk } := fun h' k =>
      hR h' tk acc c as (fun b o b1 b2 b3 b4 b5 e => k b o b2 b3 b4 b5 (hkeep b o b1 b2 b3 b4 b5 e)) (k _ _ sz sTO s1 s2 hS) (by omega)
        ⟨hG.rise, hG.above, fun j a hj => by
          obtain ⟨x, y, g1, g2, g3⟩ := hG.pairs j a hj
          have ha := hG.above a (List.mem_of_getElem? hj)
          exact ⟨x, y, g1, g2, k _ _ (Nat.ne_of_gt (Nat.lt_trans lz ha)) (Nat.ne_of_gt (Nat.lt_trans lTO ha)) (Nat.ne_of_gt (Nat.lt_trans li1 ha)) (Nat.ne_of_gt (Nat.lt_trans li2 ha)) g3⟩⟩ hacc
    rcases st.zz with ⟨rfl, hz, a, b, hTO⟩ | ⟨T, f, oT, hz, hT, _⟩
    · exact wpAny_bind (F.stop _ _ { s with heap := h, toks := tk } a b _ hh hz st.ti hTO st.it1 st.it2 st.sq1 st.sq2 hend fun h' k => wpAny_pure (fin h' k))
    · exact wpAny_bind (zipD_end (s := { s with heap := h, toks := tk }) (A := A.in1) hh D D1 D2 hz hT st.ti st.it1 st.it2 st.sq1 st.sq2 hend fun h' k => wpAny_pure (fin h' fun c o c1 _ c3 c4 e => k c o c1 c3 c4 e))
  | succ m ih =>
    intro i h tk c acc as hm hi st hkeep hS hacc hal hG
    have hlt : i < xs.size := by omega
    have hx : xs[i]? = some xs[i] := Array.getElem?_eq_getElem hlt
    have hy : ys[i]? = some (ys[i]'(by omega)) := Array.getElem?_eq_getElem (by omega)
    generalize xs[i] = x at hx
    generalize (ys[i]'(by omega)) = y at hy
    have hsz : acc.size = i := by rw [← Array.length_toList, hacc, List.length_map, hal]
    have hSl : S < h.objs.size := Heap.lt_size hS
    refine codeAny_builtin PySem.F.entry_extend_loop ?_
    rw [Around.under_plainId PySem.F.plain_extend_loop _]
    show wpAny _ A.in1 (pyNext (.ref z) >>= _) _ _ _
    have turn : ∀ h', (∃ T f oT, IsZipHeld h' z TI TO T f ∧ h'.get? T = some oT ∧ T ≠ S ∧ T ≠ z ∧ T ≠ i1 ∧ T ≠ i2) → It1 (i + 1) h' → It2 (i + 1) h' → IsPair h' h.objs.size x y → h'.objs.size = h.objs.size + 1 →
        (∀ c o, c ≠ z → c ≠ TO → c ≠ i1 → c ≠ i2 → h.get? c = some o → h'.get? c = some o) →
        wpAny (model P w) A.in1 (updateSeq S (·.push (Value.ref h.objs.size)) >>= fun _ => again (.builtin "list.extend.loop" ⟨[.ref S, .ref z, res], []⟩)) (fun fin s' => match fin with | .done f => R (.ok f) s' | .again c' => c'.quiet = true ∧ codeAny (model P w) A c' R s') (fun e s' => R (.error e) s') { s with heap := h', toks := tk } := by
      intro h' zh j1 j2 hp hz' k
      have hS' := k S _ sz sTO s1 s2 hS
      have up : ∀ b o, b ≠ S → h'.get? b = some o → (h'.update S (Obj.mapSeq (·.push (Value.ref h.objs.size)))).get? b = some o := fun b o hb e => (Heap.get?_update_other _ _ (Ne.symm hb)).trans e
      refine wpAny_bind (wpAny_updateSeq hS' rfl (wpAny_pure ⟨plainId_quiet PySem.F.plain_extend_loop _, ih (i + 1) _ tk _ (acc.push (Value.ref h.objs.size)) (as ++ [h.objs.size]) (by omega) hlt ?_ (fun b o b1 b2 b3 b4 b5 e => up b o b1 (k b o b2 b3 b4 b5 (hkeep b o b1 b2 b3 b4 b5 e))) (Heap.get?_update_self _ hS' rfl) (by rw [Array.toList_push, hacc, List.map_append]; rfl) (by rw [List.length_append, hal]; rfl) ⟨?_, ?_, ?_⟩⟩) (by rw [hsz]; omega))
      · refine ⟨up _ _ (Ne.symm sTI) (k _ _ D.TIz D.TITO D.TIi1 D.TIi2 st.ti), D1.keepI _ _ _ j1 fun o e => up _ o (Ne.symm s1) e, D2.keepI _ _ _ j2 fun o e => up _ o (Ne.symm s2) e,
          D1.keepS _ _ (D1.keepS _ _ st.sq1 fun o e => k _ o D.l1z D.l1TO D.l1i1 D.l1i2 e) fun o e => up _ o (Ne.symm sl1) e,
          D2.keepS _ _ (D2.keepS _ _ st.sq2 fun o e => k _ o D.l2z D.l2TO D.l2i1 D.l2i2 e) fun o e => up _ o (Ne.symm sl2) e, .inr ?_⟩
        obtain ⟨T, f, oT, a1, a2, a3, a4, a5, a6⟩ := zh
        exact ⟨T, f, oT, up _ _ (Ne.symm sz) a1, up _ _ a3 a2, a3, a4, a5, a6⟩
      · refine List.pairwise_append.mpr ⟨hG.rise, List.pairwise_singleton _ _, fun a ha b hb => ?_⟩
        rw [List.mem_singleton.mp hb]
        obtain ⟨j, hj⟩ := List.mem_iff_getElem?.mp ha
        obtain ⟨_, _, _, _, e⟩ := hG.pairs j a hj
        exact Heap.lt_size e
      · intro a ha
        rcases List.mem_append.mp ha with ha | ha
        · exact hG.above a ha
        · rw [List.mem_singleton.mp ha]; exact hSl
      · intro j b hj
        rcases Nat.lt_trichotomy j as.length with q | q | q
        · rw [List.getElem?_append_left q] at hj
          obtain ⟨x', y', g1, g2, g3⟩ := hG.pairs j b hj
          have hb := hG.above b (List.mem_of_getElem? hj)
          exact ⟨x', y', g1, g2, up b _ (Nat.ne_of_gt hb) (k b _ (Nat.ne_of_gt (Nat.lt_trans lz hb)) (Nat.ne_of_gt (Nat.lt_trans lTO hb)) (Nat.ne_of_gt (Nat.lt_trans li1 hb)) (Nat.ne_of_gt (Nat.lt_trans li2 hb)) g3)⟩
        · subst q
          have hb : h.objs.size = b := by simpa using hj
          subst hb
          rw [hal]
          exact ⟨x, y, hx, hy, up _ _ (Nat.ne_of_gt hSl) hp⟩
        · rw [List.getElem?_eq_none (by rw [List.length_append, List.length_singleton]; omega)] at hj
          cases hj
    have tz : h.objs.size ≠ S ∧ h.objs.size ≠ z ∧ h.objs.size ≠ i1 ∧ h.objs.size ≠ i2 := ⟨Nat.ne_of_gt hSl, Nat.ne_of_gt (Nat.lt_trans lz hSl), Nat.ne_of_gt (Nat.lt_trans li1 hSl), Nat.ne_of_gt (Nat.lt_trans li2 hSl)⟩
    rcases st.zz with ⟨rfl, hz, a, b, hTO⟩ | ⟨T, f, oT, hz, hT, t1, t2, t3, t4⟩
    · exact wpAny_bind (F.item _ _ { s with heap := h, toks := tk } x y a b _ hz st.ti hTO st.it1 st.it2 st.sq1 st.sq2 hx hy fun h' a1 a2 a3 a4 a5 a6 => turn h' ⟨_, false, _, a1, a4, tz⟩ a2 a3 a4 a5 a6)
    · by_cases hTT : T = TO
      · exact wpAny_bind (zipD_item (s := { s with heap := h, toks := tk }) (A := A.in1) D D1 D2 hz hT st.ti st.it1 st.it2 st.sq1 st.sq2 hx hy fun h' a1 a2 a3 a4 a5 a6 =>
          turn h' ⟨_, true, _, a1, a6 _ _ t2 t3 t4 hT, t1, t2, t3, t4⟩ a2 a3 a4 a5 fun c o c1 _ c3 c4 e => a6 c o c1 c3 c4 e)
      · exact wpAny_bind (zipD_item (s := { s with heap := h, toks := tk }) (A := A.in1) D D1 D2 hz hT st.ti st.it1 st.it2 st.sq1 st.sq2 hx hy fun h' a1 a2 a3 a4 a5 a6 =>
          turn h' ⟨_, true, _, a1, a6 _ _ t2 t3 t4 hT, t1, t2, t3, t4⟩ a2 a3 a4 a5 fun c o c1 _ c3 c4 e => a6 c o c1 c3 c4 e)
end
end DL
/-! ZP3: list(zip(a, b)) as an expression. -/
namespace DL
open PySem PySem.Spec PySem.W PyProof.Rows L2
section
variable {P : Program} {w : World} {A : Around} {E : Value → Shared → Prop} {s : Shared} {z TI TO i1 i2 l1 l2 : Addr} {xs ys : Array Value} {It1 It2 : Nat → Heap → Prop} {Sq1 Sq2 : Heap → Prop}
/-- a zip that is new -/
structure ZN (z TI TO i1 i2 : Addr) (It1 It2 : Nat → Heap → Prop) (Sq1 Sq2 : Heap → Prop) (h : Heap) : Prop where
  ti : IsPair h TI (.ref i1) (.ref i2)
  it1 : It1 0 h
  it2 : It2 0 h
  sq1 : Sq1 h
  sq2 : Sq2 h
  zz : IsZip h z TI TO .none
  to : ∃ a b, IsPair h TO a b
theorem ZN.keep {h h' : Heap} (D1 : Drw P w i1 l1 xs It1 Sq1) (D2 : Drw P w i2 l2 ys It2 Sq2) (n : ZN z TI TO i1 i2 It1 It2 Sq1 Sq2 h) {S : Addr} (hS : S ≠ z ∧ S ≠ TI ∧ S ≠ TO ∧ S ≠ i1 ∧ S ≠ i2 ∧ S ≠ l1 ∧ S ≠ l2) (k : ∀ b o, b ≠ S → h.get? b = some o → h'.get? b = some o) : ZN z TI TO i1 i2 It1 It2 Sq1 Sq2 h' := by
  obtain ⟨sz, sTI, sTO, s1, s2, sl1, sl2⟩ := hS
  obtain ⟨a, b, e⟩ := n.to
  exact ⟨k _ _ (Ne.symm sTI) n.ti, D1.keepI _ _ _ n.it1 fun o => k _ o (Ne.symm s1), D2.keepI _ _ _ n.it2 fun o => k _ o (Ne.symm s2), D1.keepS _ _ n.sq1 fun o => k _ o (Ne.symm sl1), D2.keepS _ _ n.sq2 fun o => k _ o (Ne.symm sl2), k _ _ (Ne.symm sz) n.zz, a, b, k _ _ (Ne.symm sTO) e⟩
theorem zip_list (hh : A.handled = none) (D : ZipApart z TI TO i1 i2 l1 l2) (D1 : Drw P w i1 l1 xs It1 Sq1) (D2 : Drw P w i2 l2 ys It2 Sq2) (F : Fst P w z TI TO i1 i2 xs ys It1 It2 Sq1 Sq2) (n : ZN z TI TO i1 i2 It1 It2 Sq1 Sq2 s.heap)
    (low : TI < s.heap.objs.size ∧ l1 < s.heap.objs.size ∧ l2 < s.heap.objs.size ∧ z < s.heap.objs.size ∧ TO < s.heap.objs.size ∧ i1 < s.heap.objs.size ∧ i2 < s.heap.objs.size) (hl : xs.size = ys.size) (hn : xs.size ≤ sizeLine) {Q : Value → Shared → Prop}
    (hQ : ∀ h' tk acc c as, (∀ b o, b ≠ z → b ≠ TO → b ≠ i1 → b ≠ i2 → s.heap.get? b = some o → h'.get? b = some o) → h'.get? s.heap.objs.size = some { cls := .type "list", dict := none, data := .seq acc c, slots := #[] } → as.length = xs.size → ZG xs ys s.heap.objs.size h' as →
      acc.toList = as.map Value.ref → Q (.ref s.heap.objs.size) { s with heap := h', toks := tk }) : wpAny (model P w) A (call (.type "list") [.ref z]) Q E s := by
  obtain ⟨b1, b2, b3, b4, b5, b6, b7⟩ := low
  have hSx : s.heap.objs.size ≠ z ∧ s.heap.objs.size ≠ TI ∧ s.heap.objs.size ≠ TO ∧ s.heap.objs.size ≠ i1 ∧ s.heap.objs.size ≠ i2 ∧ s.heap.objs.size ≠ l1 ∧ s.heap.objs.size ≠ l2 :=
    ⟨Nat.ne_of_gt b4, Nat.ne_of_gt b1, Nat.ne_of_gt b5, Nat.ne_of_gt b6, Nat.ne_of_gt b7, Nat.ne_of_gt b2, Nat.ne_of_gt b3⟩
  refine callType_codes (Q₁ := fun obj s₁ => obj = .ref s.heap.objs.size ∧ s₁ = { s with heap := s.heap.push { cls := .type "list", data := .seq #[] } }) PySem.F.called_list (PySem.F.typeCall_list_1 _) PySem.F.entry_list_init
    (code_list_new _ ⟨rfl, rfl⟩) fun obj s₁ h₁ => ?_
  obtain ⟨rfl, rfl⟩ := h₁
  have hS : (s.heap.push { cls := .type "list", data := .seq #[] }).get? s.heap.objs.size = some { cls := .type "list", data := .seq #[] } := Heap.get?_push_size _ rfl
  refine ⟨⟨_, hS, rfl⟩, PySem.F.args_list_init_2 _ _, ?_⟩
  show wpAny _ _ (do let old ← Builtin.List.listItems (.ref s.heap.objs.size); Builtin.List.listUpdate (.ref s.heap.objs.size) (fun _ => #[]); letGo old.toList.reverse; Builtin.List.listExtendWith (.ref s.heap.objs.size) (.ref z) .none) _ _ _
  refine wpAny_bind ?_
  unfold Builtin.List.listItems
  refine wpAny_bind (wpAny_seqItems hS rfl (wpAny_pure ?_))
  show wpAny _ _ (updateSeq s.heap.objs.size (fun _ => #[]) >>= fun _ => letGo (#[] : Array Value).toList.reverse >>= fun _ => Builtin.List.listExtendWith (.ref s.heap.objs.size) (.ref z) .none) _ _ _
  refine wpAny_bind (wpAny_updateSeq hS rfl ?_)
  have e2 := Heap.get?_update_self (Obj.mapSeq (fun _ => (#[] : Array Value))) hS rfl
  have k2 : ∀ b o, b ≠ s.heap.objs.size → s.heap.get? b = some o → ((s.heap.push { cls := .type "list", data := .seq #[] }).update s.heap.objs.size (Obj.mapSeq (fun _ => (#[] : Array Value)))).get? b = some o :=
    fun b o hb e => (Heap.get?_update_other _ _ (Ne.symm hb)).trans (Heap.get?_push_of_some _ e)
  generalize ((s.heap.push { cls := .type "list", data := .seq #[] }).update s.heap.objs.size (Obj.mapSeq (fun _ => (#[] : Array Value)))) = g2 at e2 k2 ⊢
  refine wpAny_bind (wpAny_letGo ?_)
  have n2 : ZN z TI TO i1 i2 It1 It2 Sq1 Sq2 g2 := n.keep D1 D2 hSx k2
  have key : ∀ (h : Heap) (c₁ : Nat), (∀ b o, b ≠ s.heap.objs.size → s.heap.get? b = some o → h.get? b = some o) → h.get? s.heap.objs.size = some { cls := .type "list", data := .seq #[] c₁ } →
      codeAny (model P w) A.in1 (.builtin "list.extend.loop" ⟨[.ref s.heap.objs.size, .ref z, .none], []⟩) (wants (fun r s₂ => r = .none ∧ Q (.ref s.heap.objs.size) s₂) E) { s with heap := h } := by
    intro h c₁ hk hS₁
    have n3 : ZN z TI TO i1 i2 It1 It2 Sq1 Sq2 h := n.keep D1 D2 hSx hk
    refine zip_loop (s := s) (h₁ := h) (A := A.in1) hh D D1 D2 F hSx ⟨b4, b5, b6, b7⟩ hl hn .none (fun h' tk acc c as k e l g ea => ?_) xs.size 0 h s.toks c₁ #[] [] (Nat.sub_zero _) (Nat.zero_le _) ⟨n3.ti, n3.it1, n3.it2, n3.sq1, n3.sq2, .inl ⟨rfl, n3.zz, n3.to⟩⟩ (fun b o _ _ _ _ _ e => e) hS₁ rfl rfl ⟨List.Pairwise.nil, (fun _ ha => nomatch ha), fun j a hj => by simp at hj⟩
    exact ⟨rfl, hQ h' tk acc c as (fun b o c1 c2 c3 c4 e => k b o (Nat.ne_of_lt (Heap.lt_size e)) c1 c2 c3 c4 (hk b o (Nat.ne_of_lt (Heap.lt_size e)) e)) e l g ea⟩
  unfold Builtin.List.listExtendWith
  refine wpAny_bind (wpAny_typeOf (T := "zip") (s := { s with heap := g2 }) ⟨_, n2.zz, rfl⟩ ?_)
  have h1 : Builtin.List.listSameRef (.ref s.heap.objs.size) (.ref z) = false := by simp [Builtin.List.listSameRef, hSx.1]
  have h2 : (Value.type "zip" == Value.type "list") = false := by decide
  have h3 : (Value.type "zip" == Value.type "tuple") = false := by decide
  simp only [h1, h2, h3, Bool.or_false, Bool.false_eq_true, if_false]
  refine wpAny_bind (wpAny_pyIter_zip (s := { s with heap := g2 }) n2.zz ?_)
  refine wpAny_bind (wpAny_holding (hint_zip (s := { s with heap := g2 }) ⟨_, n2.zz, rfl⟩ ?_))
  refine wpAny_ite_split (fun _ => ?_) (fun hab => absurd rfl hab)
  refine wpAny_bind (wpAny_rule ?_)
  refine wpAny_bind ?_
  show wpAny _ _ (updateSeq s.heap.objs.size (·.push .none) >>= fun _ => updateSeq s.heap.objs.size (·.pop)) _ _ _
  refine wpAny_bind (wpAny_updateSeq e2 rfl ?_)
  have e3 := Heap.get?_update_self (Obj.mapSeq (·.push Value.none)) e2 rfl
  refine wpAny_updateSeq (hz := by seq_fits) e3 rfl ?_
  have e4 := Heap.get?_update_self (Obj.mapSeq (·.pop)) e3 rfl
  refine wpAny_pure ⟨plainId_quiet PySem.F.plain_extend_loop _, key _ _ (fun b o hb e => ?_) e4⟩
  exact (Heap.get?_update_other _ _ (Ne.symm hb)).trans ((Heap.get?_update_other _ _ (Ne.symm hb)).trans (k2 b o hb e))
end
end DL
/-! ZP4: the rule of list(zip(a, b)). -/
namespace DL
open PySem PySem.Spec PyProof.Rows L2
section
variable {X : Cx} {pins : List (Addr × Obj)} {σ : L2.St} {H : Hp} {s : Shared}
/-- what stood stays; new objects are tracked -/
theorem Inv.grow {h' : Heap} {t' : Nat} {H' : Hp} (I : Inv X pins σ H s) (k : ∀ b o, s.heap.get? b = some o → h'.get? b = some o) (e : ∀ b u, H b = some u → H' b = some u) (f : ∀ b o, s.heap.get? b = some o → H b = none → H' b = none)
    (ok : ∀ b u, H' b = some u → H b = none → ObjOk X.prog X.w H' h' b u) : Inv X pins σ H' { s with heap := h', toks := t' } := by
  refine Inv.un I ⟨fun b o q _ _ _ => k b o q, fun b o q _ _ _ => ⟨o.slots, k b o q⟩, fun b o q n _ => f b o q n, fun b o q _ => ⟨o, k b o q⟩, fun b xs q => e b _ q, fun b o u q => e b _ q, fun b ps q => ⟨#[], by rw [e b _ q]; simp⟩⟩ fun b u q => ?_
  cases hb : H b with
  | none => exact ok b u q hb
  | some u' =>
    have := e b u' hb
    rw [q] at this
    cases this
    exact (I.hok b u hb).stay (fun d v _ y => k d v y) (fun d y => e d _ y) fun d xs y => e d _ y
/-- the heap with the list p and its tuples -/
def zipH (H : Hp) (p : Addr) (as : List Addr) (xs ys : List V) : Hp := fun b => if b = p then some (.lst (as.map V.ref)) else if b ∈ as then some (.tup [xs.getD (as.idxOf b) .non, ys.getD (as.idxOf b) .non]) else H b
theorem idx_at : ∀ {as : List Addr}, as.Nodup → ∀ {j : Nat} {a : Addr}, as[j]? = some a → as.idxOf a = j
  | [], _, j, a, h => by simp at h
  | b :: as, nd, 0, a, h => by
    have : b = a := by simpa using h
    subst this
    simp
  | b :: as, nd, j + 1, a, h => by
    obtain ⟨n1, n2⟩ := List.nodup_cons.mp nd
    have h' : as[j]? = some a := by simpa using h
    have hne : b ≠ a := fun e => n1 (e ▸ List.mem_of_getElem? h')
    rw [List.idxOf_cons, idx_at n2 h', show (b == a) = false from by simpa using hne]
    rfl
theorem vals_of_addrs : ∀ as : List Addr, Vals (as.map V.ref) (as.map Value.ref)
  | [] => .nil
  | a :: as => .cons rfl (vals_of_addrs as)
theorem vals_at : ∀ {xs : List V} {us : List Value} {i : Nat} {u : Value}, Vals xs us → us[i]? = some u → ∃ x, xs[i]? = some x ∧ RelV x u
  | _, _, _, _, .nil, h => by simp at h
  | x :: _, v :: _, 0, u, .cons r _, h => by
    have e : v = u := by simpa using h
    subst e
    exact ⟨x, rfl, r⟩
  | _, _, i + 1, u, .cons _ t, h => by
    obtain ⟨x, h1, h2⟩ := vals_at (i := i) t (by simpa using h)
    exact ⟨x, by simpa using h1, h2⟩
theorem ane {a b : Addr} (h : @LT.lt Nat instLTNat a b ∨ @LT.lt Nat instLTNat b a) : a ≠ b := fun e => by
  cases e
  rcases h with h | h <;> exact Nat.lt_irrefl _ h
def tZipL (K : PySem.W.Frag) (ta : TA) : TE := fun σ H Q => ta σ H fun vs H1 => ∃ a b xs ys, vs = [V.ref a, V.ref b] ∧ ((SqL K H1 a xs ∧ SqL K H1 b ys) ∨ (SqT K H1 a xs ∧ SqT K H1 b ys)) ∧ xs.length = ys.length ∧
  ∀ p as, H1 p = none → p ∉ as → as.Nodup → as.length = xs.length → (∀ t ∈ as, H1 t = none) → Q (.ref p) (zipH H1 p as xs ys)
theorem pe_listZip {e e2 : Expr} {ta : TA} {p p2 q2 pos : Pos} (hc : X.calm = true) (hg : Gl X "list") (hm : X.mg "list" = none) (hg2 : Gl X "zip") (hm2 : X.mg "zip" = none) (ha : PA X [e, e2] ta)
    (hv : bootBuiltins "list" = some (.type "list") := by rfl) (hv2 : bootBuiltins "zip" = some (.type "zip") := by rfl)
    (hs2 : starEach [e, e2] X.env = (false, eval e X.env) :: starEach [e2] X.env := by rfl) (hpl2 : (backTo q2 (starEach [e2] X.env)).any (·.1) = false := by rfl)
    (hs : starEach [.Call (.Name "zip" p2) [e, e2] [] q2] X.env = (false, eval (.Call (.Name "zip" p2) [e, e2] [] q2) X.env) :: starEach [] X.env := by rfl) :
    PE X (.Call (.Name "list" p) [.Call (.Name "zip" p2) [e, e2] [] q2] [] pos) (tZipL X.K ta) := by
  refine ⟨fun pins s σ H Q I hq => ?_⟩
  refine wpAny_Call_Name_kw (ld_blt I hg hm hv ?_)
  refine PyProof.Rows.callWith_type1 ?_ hs rfl
  rw [hs]
  show wpAny _ _ (spliced ((false, eval (.Call (.Name "zip" p2) [e, e2] [] q2) X.env) :: backTo pos (starEach [] X.env))) _ _ s
  refine Calls.spliced_cons ?_
  refine wpAny_Call_Name_kw (ld_blt I hg2 hm2 hv2 ?_)
  refine PyProof.Rows.callWith_type1 (thn (ha.run q2 pins s σ H _ I hq) fun us s1 ⟨vs, H1, I1, r1, q1⟩ => ?_) hs2 hpl2
  obtain ⟨a, b, xs, ys, rfl, hseq, hlen, q⟩ := q1
  obtain ⟨u1, u2, rfl, ra, rb⟩ := vals2 r1
  cases ra
  cases rb
  have main : ∀ {ixs iys : List Value} {It1 It2 : Nat → Heap → Prop} {Sq1 Sq2 : Heap → Prop} (h' : Heap), Vals xs ixs → Vals ys iys → xs.length ≤ sizeLine → a < s1.heap.objs.size → b < s1.heap.objs.size →
      (∀ (D : ZipApart (s1.heap.objs.size + 4) (s1.heap.objs.size + 2) (s1.heap.objs.size + 3) s1.heap.objs.size (s1.heap.objs.size + 1) a b), Drw X.prog X.w s1.heap.objs.size a ixs.toArray It1 Sq1 ∧ Drw X.prog X.w (s1.heap.objs.size + 1) b iys.toArray It2 Sq2 ∧
        Fst X.prog X.w (s1.heap.objs.size + 4) (s1.heap.objs.size + 2) (s1.heap.objs.size + 3) s1.heap.objs.size (s1.heap.objs.size + 1) ixs.toArray iys.toArray It1 It2 Sq1 Sq2) →
      ZN (s1.heap.objs.size + 4) (s1.heap.objs.size + 2) (s1.heap.objs.size + 3) s1.heap.objs.size (s1.heap.objs.size + 1) It1 It2 Sq1 Sq2 h' → h'.objs.size = s1.heap.objs.size + 5 → (∀ c o, s1.heap.get? c = some o → h'.get? c = some o) →
      wpAny (model X.prog X.w) X.A (call (.type "list") [.ref (s1.heap.objs.size + 4)]) (EP X pins σ Q) X.xe { s1 with heap := h' } := by
    intro ixs iys It1 It2 Sq1 Sq2 h' rx ry hz la lb hD n hsz k
    generalize hN : s1.heap.objs.size = N at *
    have D : ZipApart (N + 4) (N + 2) (N + 3) N (N + 1) a b := by
      have la : @LT.lt Nat instLTNat a N := la
      have lb : @LT.lt Nat instLTNat b N := lb
      constructor <;> exact ane (by omega)
    obtain ⟨D1, D2, F⟩ := hD D
    refine zip_list (s := { s1 with heap := h' }) (I1.ok.hd hc) D D1 D2 F n ?_ (by rw [List.size_toArray, List.size_toArray, ← rx.length, ← ry.length]; exact hlen) (by rw [List.size_toArray, ← rx.length]; exact hz) fun h2 tk acc c as k2 e l g ea => ?_
    · show _ < h'.objs.size ∧ _ < h'.objs.size ∧ _ < h'.objs.size ∧ _ < h'.objs.size ∧ _ < h'.objs.size ∧ _ < h'.objs.size ∧ _ < h'.objs.size
      rw [hsz]
      have la : @LT.lt Nat instLTNat a N := la
      have lb : @LT.lt Nat instLTNat b N := lb
      refine ⟨?_, ?_, ?_, ?_, ?_, ?_, ?_⟩ <;> (show @LT.lt Nat instLTNat _ _; omega)
    · have e : h2.get? h'.objs.size = some { cls := .type "list", dict := none, data := .seq acc c, slots := #[] } := e
      have g : ZG ixs.toArray iys.toArray h'.objs.size h2 as := g
      rw [hsz] at e g
      have kk : ∀ b o, s1.heap.get? b = some o → h2.get? b = some o := fun b o q => by
        have hb : @LT.lt Nat instLTNat b N := by
          have := Heap.lt_size q
          rw [hN] at this
          exact this
        refine k2 b o ?_ ?_ ?_ ?_ (k b o q) <;> exact ane (by omega)
      have nd : as.Nodup := List.Pairwise.imp (fun {a b} (h : a < b) => Nat.ne_of_lt h) g.rise
      have hi : ∀ t ∈ as, N + 5 < t := g.above
      have fresh : ∀ t, N ≤ t → H1 t = none := fun t ht => I1.hok.fresh (by rw [hN]; exact ht)
      have hS : N + 5 ∉ as := fun z => Nat.lt_irrefl _ (hi _ z)
      have eS : zipH H1 (N + 5) as xs ys (N + 5) = some (.lst (as.map V.ref)) := by unfold zipH; rw [if_pos rfl]
      have eT : ∀ t ∈ as, zipH H1 (N + 5) as xs ys t = some (.tup [xs.getD (as.idxOf t) .non, ys.getD (as.idxOf t) .non]) := fun t ht => by
        unfold zipH
        rw [if_neg (fun z : t = N + 5 => hS (z ▸ ht)), if_pos ht]
      have eO : ∀ t, t ≠ N + 5 → t ∉ as → zipH H1 (N + 5) as xs ys t = H1 t := fun t h1 h2 => by
        unfold zipH
        rw [if_neg h1, if_neg h2]
      have old : ∀ t u, H1 t = some u → zipH H1 (N + 5) as xs ys t = some u := fun t u q => by
        rw [eO t (fun z => by rw [z, fresh (N + 5) (Nat.le_add_right _ _)] at q; cases q) fun z => by rw [fresh t (Nat.le_trans (Nat.le_add_right N 5) (Nat.le_of_lt (hi t z)))] at q; cases q]
        exact q
      have J : Inv X pins σ (zipH H1 (N + 5) as xs ys) { s1 with heap := h2, toks := tk } := by
        refine Inv.grow I1 kk old (fun t o q n => ?_) fun t u q n => ?_
        · have ht : @LT.lt Nat instLTNat t N := by
            have := Heap.lt_size q
            rw [hN] at this
            exact this
          rw [eO t (ane (by omega)) fun z => absurd (show @LT.lt Nat instLTNat (N + 5) t from hi t z) (by omega)]
          exact n
        · by_cases h1 : t = N + 5
          · subst h1
            rw [eS] at q
            cases q
            refine ⟨?_, acc.toList, c, by rw [ea]; exact vals_of_addrs as, by rw [Array.toArray_toList]; exact e⟩
            rw [List.length_map, l, List.size_toArray, ← rx.length]
            exact hz
          · by_cases h2' : t ∈ as
            · rw [eT t h2'] at q
              cases q
              obtain ⟨j, hj⟩ := List.mem_iff_getElem?.mp h2'
              obtain ⟨x, y, g1, g2, g3⟩ := g.pairs j t hj
              rw [idx_at nd hj]
              rw [List.getElem?_toArray] at g1 g2
              obtain ⟨vx, ex, r1'⟩ := vals_at rx g1
              obtain ⟨vy, ey, r2'⟩ := vals_at ry g2
              have e1 : xs.getD j .non = vx := by rw [List.getD_eq_getElem?_getD, ex]; rfl
              have e2 : ys.getD j .non = vy := by rw [List.getD_eq_getElem?_getD, ey]; rfl
              rw [e1, e2]
              exact ⟨by show 2 ≤ sizeLine; decide, [x, y], .cons r1' (.cons r2' .nil), ⟨_, g3, rfl, _, rfl⟩⟩
            · rw [eO t h1 h2', n] at q
              cases q
      show EP X pins σ Q (.ref h'.objs.size) _
      rw [hsz]
      exact ⟨.ref (N + 5), _, J, rfl, q (N + 5) as (fresh _ (Nat.le_add_right _ _)) hS nd (by rw [l, List.size_toArray, ← rx.length]) fun t ht => fresh t (Nat.le_trans (Nat.le_add_right N 5) (Nat.le_of_lt (hi t ht)))⟩
  rcases hseq with ⟨h1, h2⟩ | ⟨h1, h2⟩
  · obtain ⟨ixs, rx, p1, hz⟩ := I1.list h1
    obtain ⟨iys, ry, p2, _⟩ := I1.list h2
    refine call_zip_2 p1.isList p2.isList fun h' c1 c2 c3 c4 c5 c6 c7 => Calls.spliced_nil ?_
    refine main (It1 := fun k h => h.IsListIter s1.heap.objs.size a k) (It2 := fun k h => h.IsListIter (s1.heap.objs.size + 1) b k) (Sq1 := fun h => h.IsList a ixs.toArray) (Sq2 := fun h => h.IsList b iys.toArray) h' rx ry hz p1.lt p2.lt (fun D => ⟨Drw.list _ _ _, Drw.list _ _ _, ⟨fun A E s x y a' b' Q z1 z2 z3 z4 z5 z6 z7 z8 z9 hQ => ?_, fun A E s a' b' Q hh z1 z2 z3 z4 z5 z6 z7 z8 hQ => ?_⟩⟩) ⟨c2, c4, c5, let ⟨o, ho, r⟩ := p1.isList; ⟨o, c7 _ _ ho, r⟩, let ⟨o, ho, r⟩ := p2.isList; ⟨o, c7 _ _ ho, r⟩, c1, _, _, c3⟩ c6 c7
    · exact wpAny_pyNext_zip_item D z1 z2 z3 z4 z5 z6 z7 z8 z9 fun h'' a1 _ a3 a4 a5 a6 a7 => hQ h'' a1 a3 a4 a5 a6 a7
    · exact wpAny_pyNext_zip_end hh D z1 z2 z3 z4 z5 z6 z7 z8 hQ
  · obtain ⟨ixs, rx, p1, hz⟩ := I1.tuple h1
    obtain ⟨iys, ry, p2, _⟩ := I1.tuple h2
    have i1 : s1.heap.IsTuple a ixs.toArray := p1
    have i2 : s1.heap.IsTuple b iys.toArray := p2
    refine RZ.call_zipT i1 i2 fun h' c1 c2 c3 c4 c5 c6 c7 => Calls.spliced_nil ?_
    refine main (It1 := fun k h => h.IsTupleIter s1.heap.objs.size a k) (It2 := fun k h => h.IsTupleIter (s1.heap.objs.size + 1) b k) (Sq1 := fun h => h.IsTuple a ixs.toArray) (Sq2 := fun h => h.IsTuple b iys.toArray) h' rx ry hz p1.lt p2.lt (fun D => ⟨Drw.tuple _ _ _, Drw.tuple _ _ _, ⟨fun A E s x y a' b' Q z1 z2 z3 z4 z5 z6 z7 z8 z9 hQ => ?_, fun A E s a' b' Q hh z1 z2 z3 z4 z5 z6 z7 z8 hQ => ?_⟩⟩) ⟨c2, c4, c5, let ⟨o, ho, r⟩ := i1; ⟨o, c7 _ _ ho, r⟩, let ⟨o, ho, r⟩ := i2; ⟨o, c7 _ _ ho, r⟩, c1, _, _, c3⟩ c6 c7
    · exact RZ.pyNext_zipT_item D z1 z2 z3 z4 z5 z6 z7 z8 z9 fun h'' a1 _ a3 a4 a5 a6 a7 => hQ h'' a1 a3 a4 a5 a6 a7
    · exact RZ.pyNext_zipT_end hh D z1 z2 z3 z4 z5 z6 z7 z8 hQ
end
end DL
/-! DL13: list(zip(a, b)), list(d.items()), list(d.values()), sum(d.values()), sorted(d.items()), over data. -/
namespace DL
open PySem PySem.Spec PyProof.Rows L2
open PySem.W (dataLe EachIs)
theorem Tk.ext {K : PySem.W.Frag} {H H' : Hp} (e : ∀ b o, H b = some o → H' b = some o) : Tk K H H' := by
  refine ⟨fun b xs q => ?_, fun b o u q => e b _ q⟩
  rcases q with (q | ⟨ob, q⟩) | q
  · exact .inl (.inl (e b _ q))
  · exact .inl (.inr ⟨ob, e b _ q⟩)
  · exact .inr q
theorem AbsH.ext {W : Wd} {H H' : Hp} {G : Gp} (hG : AbsH W H G) (e : ∀ b o, H b = some o → H' b = some o) : AbsH W H' G := fun a m h => by
  have hm := hG a m h
  cases ha : H a with
  | none => exact absurd hm (AbsMO.there ha)
  | some o => exact hm.mono (Tk.ext e) ((e a o ha).trans ha.symm)
theorem rels_of {K : PySem.W.Frag} {H : Hp} : ∀ {ds : List D} {xs : List V}, ds.length = xs.length → (∀ (i : Nat) d x, ds[i]? = some d → xs[i]? = some x → RelD K H d x) → RelDs K H ds xs
  | [], [], _, _ => rfl
  | d :: ds, x :: xs, hl, h => ⟨x, xs, rfl, h 0 d x rfl rfl, rels_of (by simpa using hl) fun i d x h1 h2 => h (i + 1) d x (by simpa using h1) (by simpa using h2)⟩
section
variable {X : Cx}
/-! ### list(zip(a, b)) -/
def zipK (d e : D) (G : Gp) (k : List D → List D → Prop) : Prop := match d, e with
  | .tup xs, .tup ys => k xs ys
  | .ref a, .ref b => lisK (.ref a) G fun xs => lisK (.ref b) G fun ys => k xs ys
  | _, _ => False
def zipD (xs ys : List D) : List D := (xs.zip ys).map fun p => .tup [p.1, p.2]
def dZipL (ta : TAd) : TD := fun σ G q => ta σ G fun ds G1 => arg2 ds fun d e => zipK d e G1 fun xs ys => xs.length = ys.length ∧ newO (.lst (zipD xs ys)) q G1
theorem qe_listZip {e e2 : Expr} {ta : TAd} {p p2 q2 pos : Pos} (hc : X.calm = true) (hg : Gl X "list") (hm : X.mg "list" = none) (hg2 : Gl X "zip") (hm2 : X.mg "zip" = none) (ha : QA X [e, e2] ta)
    (hv : bootBuiltins "list" = some (.type "list") := by rfl) (hv2 : bootBuiltins "zip" = some (.type "zip") := by rfl)
    (hs2 : starEach [e, e2] X.env = (false, eval e X.env) :: starEach [e2] X.env := by rfl) (hpl2 : (backTo q2 (starEach [e2] X.env)).any (·.1) = false := by rfl)
    (hs : starEach [.Call (.Name "zip" p2) [e, e2] [] q2] X.env = (false, eval (.Call (.Name "zip" p2) [e, e2] [] q2) X.env) :: starEach [] X.env := by rfl) :
    QE X (.Call (.Name "list" p) [.Call (.Name "zip" p2) [e, e2] [] q2] [] pos) (dZipL ta) :=
  PE.imp (pe_listZip hc hg hm hg2 hm2 ha hv hv2 hs2 hpl2 hs) fun σ H Q ⟨σd, G, q, hS, hG, h, hw⟩ => ⟨σd, G, _, hS, hG, h, fun vs H1 ds G1 tk hG1 rr h1 => by
    obtain ⟨d, e, v, u, rfl, rfl, rd, re, h2⟩ := arg2_of h1 rr
    obtain ⟨a, b, xs, ys, vx, vy, ev, eu, hseq, rx, ry, hl, h3⟩ : ∃ a b xs ys vx vy, v = .ref a ∧ u = .ref b ∧ ((SqL X.K H1 a vx ∧ SqL X.K H1 b vy) ∨ (SqT X.K H1 a vx ∧ SqT X.K H1 b vy)) ∧ RelDs X.K H1 xs vx ∧ RelDs X.K H1 ys vy ∧ xs.length = ys.length ∧ newO (.lst (zipD xs ys)) q G1 := by
      unfold zipK at h2
      split at h2
      · obtain ⟨a, vx, rfl, q1, r1⟩ := rd
        obtain ⟨b, vy, rfl, q2, r2⟩ := re
        exact ⟨a, b, _, _, vx, vy, rfl, rfl, .inr ⟨q1, q2⟩, r1, r2, h2⟩
      · obtain ⟨a, xs, vx, ea, rfl, q1, r1, h2⟩ := lisK_of h2 rd hG1
        obtain ⟨b, ys, vy, eb, rfl, q2, r2, h2⟩ := lisK_of h2 re hG1
        exact ⟨a, b, xs, ys, vx, vy, rfl, rfl, .inl ⟨q1, q2⟩, r1, r2, h2⟩
      · exact h2.elim
    subst ev eu
    have lx := rx.length
    have ly := ry.length
    refine ⟨a, b, vx, vy, rfl, hseq, by omega, fun p as hp hpa nd hal hfr => ?_⟩
    have old : ∀ t o, H1 t = some o → zipH H1 p as vx vy t = some o := fun t o q => by
      unfold zipH
      rw [if_neg (fun z => by rw [z, hp] at q; cases q), if_neg (fun z => by rw [hfr t z] at q; cases q)]
      exact q
    have eS : zipH H1 p as vx vy p = some (.lst (as.map V.ref)) := by unfold zipH; rw [if_pos rfl]
    have tk1 : Tk X.K H1 (zipH H1 p as vx vy) := Tk.ext old
    have rl : RelDs X.K (zipH H1 p as vx vy) (zipD xs ys) (as.map V.ref) := by
      refine rels_of (by unfold zipD; rw [List.length_map, List.length_zip, List.length_map, hal]; omega) fun i d x h1 h2 => ?_
      unfold zipD at h1
      rw [List.getElem?_map] at h1 h2
      obtain ⟨⟨d1, d2⟩, z1, rfl⟩ := Option.map_eq_some_iff.mp h1
      obtain ⟨t, z2, rfl⟩ := Option.map_eq_some_iff.mp h2
      obtain ⟨z3, z4⟩ := List.getElem?_zip_eq_some.mp z1
      obtain ⟨v1, e1, r1⟩ := rx.get z3
      obtain ⟨v2, e2, r2⟩ := ry.get z4
      have ht : t ∈ as := List.mem_of_getElem? z2
      refine ⟨t, [v1, v2], rfl, .inl (.inl ?_), v1, [v2], rfl, r1.mono tk1, v2, [], rfl, r2.mono tk1, rfl⟩
      unfold zipH
      rw [if_neg (fun z : t = p => hpa (z ▸ ht)), if_pos ht, idx_at nd z2, List.getD_eq_getElem?_getD, List.getD_eq_getElem?_getD, e1, e2]
      rfl
    refine hw (.ref p) _ (.ref p) (gup G1 p (.lst (zipD xs ys))) (tk.trans tk1) (fun b m e => ?_) rfl (h3 p (hG1.none hp))
    by_cases hb : b = p
    · subst hb
      rw [gup_same] at e
      cases e
      exact ⟨_, eS, rl⟩
    · rw [gup_ne hb] at e
      exact hG1.ext old b m e⟩
/-! ### list(d.items()) -/
/-- a dict whose keys are ints and texts -/
def dicK (d : D) (G : Gp) (k : List (D × D) → Prop) : Prop := match d with
  | .ref a => match G a with
    | some (.dic kvs) => KeysK kvs ∧ k kvs
    | _ => False
  | _ => False
theorem dicK_at {W : Wd} {H : Hp} {d : D} {x : V} {G : Gp} {k : List (D × D) → Prop} (h : dicK d G k) (rd : RelD W.K H d x) (hG : AbsH W H G) : ∃ a kvs xs, d = .ref a ∧ x = .ref a ∧ H a = some (.dK xs) ∧ Paired (KRel W H) kvs xs ∧ k kvs := by
  cases d with
  | ref a =>
    have h : (match G a with | some (.dic kvs) => KeysK kvs ∧ k kvs | _ => False) := h
    cases ea : G a with
    | none => rw [ea] at h; exact h.elim
    | some m =>
      rw [ea] at h
      cases m with
      | dic kvs =>
        obtain ⟨xs, e1, r1⟩ := dicK_of (hG a _ ea) h.1
        exact ⟨a, kvs, xs, rfl, rd, e1, r1, h.2⟩
      | _ => exact h.elim
  | _ => exact h.elim
def pairsD (kvs : List (D × D)) : List D := kvs.map fun p => .tup [p.1, p.2]
def dListItems (te : TD) : TD := fun σ G q => te σ G fun d G1 => dicK d G1 fun kvs => newO (.lst (pairsD kvs)) q G1
theorem rel_pairs {W : Wd} {H H' : Hp} {ts : List Addr} {kvs : List (D × D)} {xs : List (Key × V)} (tk : Tk W.K H H') (r : Paired (KRel W H) kvs xs) (t : Paired (fun (t : Addr) (q : Key × V) => H' t = some (.tup [kV q.1, q.2])) ts xs) : RelDs W.K H' (pairsD kvs) (ts.map V.ref) := by
  induction r generalizing ts with
  | nil =>
    cases t
    exact rfl
  | cons a _ ih =>
    cases t with
    | cons b t =>
      refine RelDs.cons ⟨_, _, rfl, .inl (.inl b), ?_⟩ (ih t)
      refine RelDs.cons ?_ (RelDs.cons (a.2.mono tk) RelDs.nil)
      rw [a.1]
      exact rel_kD _
theorem qe_listItems {e : Expr} {te : TD} {p apos cpos pos : Pos} (hc : X.calm = true) (he : QE X e te) (hg : Gl X "list") (hm : X.mg "list" = none) (hv : bootBuiltins "list" = some (.type "list") := by rfl) (hbase : attributeBase e "items" X.env (eval e X.env) = eval e X.env := by rfl) (hline : (apos.endLine == cpos.line) = true := by rfl)
    (hs : starEach [.Call (.Attribute e "items" apos) [] [] cpos] X.env = (false, eval (.Call (.Attribute e "items" apos) [] [] cpos) X.env) :: starEach [] X.env := by rfl) :
    QE X (.Call (.Name "list" p) [.Call (.Attribute e "items" apos) [] [] cpos] [] pos) (dListItems te) :=
  PE.imp (LiI.pe_listItems hc he hg hm hv hbase hline hs) fun σ H Q ⟨σd, G, q, hS, hG, h, hw⟩ => ⟨σd, G, _, hS, hG, h, fun x H1 d G1 tk hG1 rd h1 => by
    obtain ⟨a, kvs, xs, rfl, rfl, e1, r1, h2⟩ := dicK_at h1 rd hG1
    refine ⟨a, xs, rfl, e1, fun H' p ts old hp hts hpt eS ht => ?_⟩
    have tk1 : Tk X.K H1 H' := Tk.ext old
    refine hw (.ref p) _ (.ref p) (gup G1 p (.lst (pairsD kvs))) (tk.trans tk1) (fun b m e => ?_) rfl (h2 p (hG1.none hp))
    by_cases hb : b = p
    · subst hb
      rw [gup_same] at e
      cases e
      exact ⟨_, eS, rel_pairs tk1 r1 ht⟩
    · rw [gup_ne hb] at e
      exact hG1.ext old b m e⟩
end
end DL
/-! DL14: list(d.values()), sum(d.values()), sorted(d.items()). -/
namespace DL
open PySem PySem.Spec PyProof.Rows L2
open PySem.W (dataLe EachIs)
section
variable {X : Cx} {pins : List (Addr × Obj)} {σ : L2.St} {H : Hp} {s : Shared} {o : Expr} {td : TE} {apos mpos : Pos}
/-- d.values() alone -/
theorem view_values (hbase : attributeBase o "values" X.env (eval o X.env) = eval o X.env) (hline : (apos.endLine == mpos.line) = true) {R : Value → Shared → Prop} (hd : PE X o td) (I : Inv X pins σ H s) {W : Addr → List (Key × V) → Hp → Prop}
    (h : td σ H fun x H1 => ∃ a kvs, x = .ref a ∧ H1 a = some (.dK kvs) ∧ W a kvs H1)
    (k : ∀ a kvs H1 s1 vs ep, Inv X pins σ H1 s1 → KV kvs vs → s1.heap.DictAt (mixKind X.prog X.w) a vs ep → kvs.length ≤ sizeLine → W a kvs H1 → R (.ref s1.heap.objs.size) { s1 with heap := s1.heap.push { cls := .type "dict_values", data := .fields #[.ref a] } }) :
    wpAny (model X.prog X.w) X.A (eval (.Call (.Attribute o "values" apos) [] [] mpos) X.env) R X.xe s := by
  refine wpAny_Call_method0_late hbase hline (thn (hd.run pins s σ H _ I h) fun v s1 ⟨x, H1, I1, r1, a, kvs, ex, ha, q⟩ => ?_)
  subst ex
  obtain rfl : v = Value.ref a := r1
  obtain ⟨hz, hsys, vs, rel, dof⟩ := dk_of I1.hok ha
  obtain ⟨ep, dat⟩ := dof.dictAt
  have dat' := dat
  obtain ⟨ob, es, ho, ex, _⟩ := dat'
  refine ⟨"dict", "dict.values", F.plainAttrs_dict, F.slot_dict_values, F.type_dict_values, ⟨ob, ho, ex.1⟩, fun b e => ?_, Calls.callWith_builtin rfl (PySem.evalArgs_none ?_)⟩
  · cases e
    exact ⟨ob, ho, ex.2.1⟩
  · exact call_meetsIn F.slot_dict_values ⟨ob, ho, ex.1⟩ F.entry_dict_values (F.args_dict_values_1 _) (meets_dict_values (mixKind X.prog X.w) a hsys) ⟨⟨vs, dof⟩, k a kvs H1 s1 vs ep I1 rel dat hz q⟩
/-- d.items() alone -/
theorem view_items (hbase : attributeBase o "items" X.env (eval o X.env) = eval o X.env) (hline : (apos.endLine == mpos.line) = true) {R : Value → Shared → Prop} (hd : PE X o td) (I : Inv X pins σ H s) {W : Addr → List (Key × V) → Hp → Prop}
    (h : td σ H fun x H1 => ∃ a kvs, x = .ref a ∧ H1 a = some (.dK kvs) ∧ W a kvs H1)
    (k : ∀ a kvs H1 s1 vs ep, Inv X pins σ H1 s1 → KV kvs vs → s1.heap.DictAt (mixKind X.prog X.w) a vs ep → kvs.length ≤ sizeLine → W a kvs H1 → R (.ref s1.heap.objs.size) { s1 with heap := s1.heap.push { cls := .type "dict_items", data := .fields #[.ref a] } }) :
    wpAny (model X.prog X.w) X.A (eval (.Call (.Attribute o "items" apos) [] [] mpos) X.env) R X.xe s := by
  refine wpAny_Call_method0_late hbase hline (thn (hd.run pins s σ H _ I h) fun v s1 ⟨x, H1, I1, r1, a, kvs, ex, ha, q⟩ => ?_)
  subst ex
  obtain rfl : v = Value.ref a := r1
  obtain ⟨hz, hsys, vs, rel, dof⟩ := dk_of I1.hok ha
  obtain ⟨ep, dat⟩ := dof.dictAt
  have dat' := dat
  obtain ⟨ob, es, ho, ex, _⟩ := dat'
  refine ⟨"dict", "dict.items", F.plainAttrs_dict, F.slot_dict_items, F.type_dict_items, ⟨ob, ho, ex.1⟩, fun b e => ?_, Calls.callWith_builtin rfl (PySem.evalArgs_none ?_)⟩
  · cases e
    exact ⟨ob, ho, ex.2.1⟩
  · exact call_meetsIn F.slot_dict_items ⟨ob, ho, ex.1⟩ F.entry_dict_items (F.args_dict_items_1 _) (meets_dict_items (mixKind X.prog X.w) a hsys) ⟨⟨vs, dof⟩, k a kvs H1 s1 vs ep I1 rel dat hz q⟩
end
section
variable {X : Cx} {o : Expr} {td : TE} {p apos mpos pos : Pos}
theorem kv_at {kvs : List (Key × V)} {vs : List (Key × Value)} (r : KV kvs vs) : ∀ {i : Nat} {q : Key × V}, kvs[i]? = some q → ∃ v, vs[i]? = some (q.1, v) ∧ RelV q.2 v := by
  unfold KV at r
  induction r with
  | nil => intro i q e; simp at e
  | cons a t ih =>
    intro i q e
    cases i with
    | zero =>
      rename_i p1 p2 _ _
      have e : p1 = q := by simpa using e
      subst e
      obtain ⟨a1, a2⟩ := a
      exact ⟨p2.2, by rw [a1]; rfl, a2⟩
    | succ i => simpa using ih (by simpa using e)
def tListV (td : TE) : TE := fun σ H Q => td σ H fun x H1 => ∃ a kvs, x = .ref a ∧ H1 a = some (.dK kvs) ∧ ∀ p, H1 p = none → Q (.ref p) (upd H1 p (.lst (kvs.map (·.2))))
theorem pe_listV (hc : X.calm = true) (hg : Gl X "list") (hm : X.mg "list" = none) (hd : PE X o td) (hv : bootBuiltins "list" = some (.type "list") := by rfl) (hbase : attributeBase o "values" X.env (eval o X.env) = eval o X.env := by rfl) (hline : (apos.endLine == mpos.line) = true := by rfl)
    (hs : starEach [.Call (.Attribute o "values" apos) [] [] mpos] X.env = (false, eval (.Call (.Attribute o "values" apos) [] [] mpos) X.env) :: starEach [] X.env := by rfl) :
    PE X (.Call (.Name "list" p) [.Call (.Attribute o "values" apos) [] [] mpos] [] pos) (tListV td) := by
  refine ⟨fun pins s σ H Q I h => ?_⟩
  refine wpAny_Call_Name_kw (ld_blt I hg hm hv ?_)
  refine PyProof.Rows.callWith_type1 ?_ hs rfl
  rw [hs]
  show wpAny _ _ (spliced ((false, eval (.Call (.Attribute o "values" apos) [] [] mpos) X.env) :: backTo pos (starEach [] X.env))) _ _ s
  refine Calls.spliced_cons (view_values hbase hline hd I h fun a kvs H1 s1 vs ep I1 rel dat hz q => Calls.spliced_nil ?_)
  have k1 : ∀ b u, s1.heap.get? b = some u → (s1.heap.push { cls := .type "dict_values", data := .fields #[.ref a] }).get? b = some u := fun b u e => Heap.get?_push_of_some _ e
  have lk : kvs.length = vs.length := Paired.length rel
  refine PySem.W.kdl_call (PySem.W.kdl_values (knd := mixKind X.prog X.w) (kvs := vs) (ep := ep) (r := s1.heap.objs.size) (d := a)) (I1.ok.hd hc) ⟨⟨_, Heap.get?_push_size _ rfl, rfl, rfl⟩, dat.keep k1⟩ (by omega) fun h' tk acc c kp e it => ?_
  have kk : ∀ b u, s1.heap.get? b = some u → h'.get? b = some u := fun b u q => kp b u (k1 b u q)
  have hsz : (s1.heap.push { cls := .type "dict_values", data := .fields #[.ref a] }).objs.size = s1.heap.objs.size + 1 := Heap.size_push ..
  have e : h'.get? (s1.heap.push { cls := .type "dict_values", data := .fields #[.ref a] }).objs.size = some { cls := .type "list", dict := none, data := .seq acc c, slots := #[] } := e
  show EP X pins σ Q (.ref (s1.heap.push { cls := .type "dict_values", data := .fields #[.ref a] }).objs.size) _
  rw [hsz] at e ⊢
  have rv : Vals (kvs.map (·.2)) acc.toList := by
    have hal : acc.toList.length = kvs.length := by rw [Array.length_toList, it.1, lk]
    refine vals_of_at (by rw [List.length_map, hal]) fun i x u hx hu => ?_
    rw [List.getElem?_map] at hx
    obtain ⟨qv, hq, rfl⟩ := Option.map_eq_some_iff.mp hx
    obtain ⟨v, hv2, rv⟩ := kv_at rel hq
    rw [Array.getElem?_toList] at hu
    obtain ⟨k, hk⟩ := it.2 i u hu
    rw [hv2] at hk
    cases hk
    exact rv
  have hn : H1 (s1.heap.objs.size + 1) = none := I1.hok.fresh (Nat.le_succ _)
  have J := I1.laid (o := .lst (kvs.map (·.2))) (t' := tk) kk (Nat.le_succ _) ⟨by rw [List.length_map]; exact hz, acc.toList, c, rv, by rw [Array.toArray_toList]; exact e⟩
  exact ⟨.ref (s1.heap.objs.size + 1), _, J, rfl, q _ hn⟩
where vals_of_at : ∀ {xs : List V} {us : List Value}, xs.length = us.length → (∀ (i : Nat) x u, xs[i]? = some x → us[i]? = some u → RelV x u) → Vals xs us
  | [], [], _, _ => .nil
  | x :: xs, u :: us, hl, h => .cons (h 0 x u rfl rfl) (vals_of_at (by simpa using hl) fun i x u h1 h2 => h (i + 1) x u (by simpa using h1) (by simpa using h2))
def tSumV (td : TE) : TE := fun σ H Q => td σ H fun x H1 => ∃ a kvs, x = .ref a ∧ H1 a = some (.dK kvs) ∧ ∃ ns : List Int, kvs.map (·.2) = ns.map V.int ∧ Q (.int ns.sum) H1
theorem preSum_sum (ns : List Int) : ∀ j, j ≤ ns.length → preSum (fun i => ns.getD i 0) j = (ns.take j).sum
  | 0, _ => by simp [preSum]
  | j + 1, h => by
    rw [preSum, preSum_sum ns j (by omega)]
    have hj : ns[j]? = some ns[j] := List.getElem?_eq_getElem (by omega)
    rw [List.getD_eq_getElem?_getD, hj, List.take_add_one, hj, List.sum_append]
    simp
theorem pe_sumV (hc : X.calm = true) (hg : Gl X "sum") (hm : X.mg "sum" = none) (hd : PE X o td) (hv : bootBuiltins "sum" = some (.builtin "sum") := by rfl) (hbase : attributeBase o "values" X.env (eval o X.env) = eval o X.env := by rfl) (hline : (apos.endLine == mpos.line) = true := by rfl)
    (hse : starEach [Expr.Call (.Attribute o "values" apos) [] [] mpos] X.env = [(false, eval (Expr.Call (.Attribute o "values" apos) [] [] mpos) X.env)] := by rfl) :
    PE X (.Call (.Name "sum" p) [.Call (.Attribute o "values" apos) [] [] mpos] [] pos) (tSumV td) := by
  refine ⟨fun pins s σ H Q I h => ?_⟩
  refine wpAny_Call_Name_kw (ld_blt I hg hm hv ?_)
  rw [hse]
  refine PySem.callWith_builtin1 (view_values hbase hline hd I h fun a kvs H1 s1 vs ep I1 rel dat hz ⟨ns, hns, q⟩ => ?_)
  have k1 : ∀ b u, s1.heap.get? b = some u → (s1.heap.push { cls := .type "dict_values", data := .fields #[.ref a] }).get? b = some u := fun b u e => Heap.get?_push_of_some _ e
  have dat1 : (s1.heap.push { cls := .type "dict_values", data := .fields #[.ref a] }).DictAt (mixKind X.prog X.w) a vs ep := dat.keep k1
  have lk : kvs.length = vs.length := Paired.length rel
  have ln : ns.length = kvs.length := by
    have := congrArg List.length hns
    simpa using this.symm
  have hlt : a < s1.heap.objs.size := dat.lt_size
  have hsz : (s1.heap.push { cls := .type "dict_values", data := .fields #[.ref a] }).objs.size = s1.heap.objs.size + 1 := Heap.size_push _ _
  refine call_sum_walkAnyB (wpAny_pyIter_values (v := s1.heap.objs.size) (d := a) ⟨_, Heap.get?_push_size _ rfl, rfl, rfl⟩ dat1 ?_)
  refine ⟨_, _, _, _, _, _, _, fun i => ns.getD i 0, rfl, (Walks.dictValues (knd := mixKind X.prog X.w) (A := X.A.in1) (I.ok.hd hc) (s1.heap.push { cls := .type "dict_values", data := .fields #[.ref a] }).objs.size a (by rw [hsz]; exact Nat.ne_of_lt (Nat.lt_succ_of_lt hlt)) vs ep).toS,
    ⟨⟨_, Heap.get?_push_size _ rfl, rfl, rfl⟩, dat1.keep fun b u e => Heap.get?_push_of_some _ e⟩, fun b hb => ?_, fun i v ⟨k, hk⟩ => ?_, fun s' t' hm => ?_⟩
  · show b < ((s1.heap.push _).push _).objs.size
    rw [Heap.size_push, Heap.size_push]
    simp only [List.mem_cons, List.not_mem_nil, or_false] at hb
    rcases hb with rfl | rfl
    · rw [hsz]; exact Nat.lt_succ_self _
    · exact Nat.lt_succ_of_lt (Nat.lt_succ_of_lt hlt)
  · obtain ⟨x, h1, h2⟩ := KV.at' rel hk
    have e1 : (kvs.map (·.2))[i]? = some x := by rw [List.getElem?_map, h1]; rfl
    rw [hns, List.getElem?_map] at e1
    obtain ⟨j, hj, e2⟩ := Option.map_eq_some_iff.mp e1
    subst e2
    obtain ⟨t, e3⟩ := h2
    refine .inl ⟨t, ?_⟩
    show v = .int (ns.getD i 0) t
    rw [e3, List.getD_eq_getElem?_getD, hj]
    rfl
  · have kk : ∀ b u, s1.heap.get? b = some u → s'.heap.get? b = some u := fun b u e => hm.heap b u (fun z => by
      have := List.mem_singleton.mp z
      rw [this, hsz] at e
      exact absurd (Heap.lt_size e) (Nat.not_lt.mpr (Nat.le_succ _))) (Heap.get?_push_of_some _ (k1 b u e))
    rw [Moved.eq_with hm]
    have J : Inv X pins σ H1 { s1 with heap := s'.heap, toks := s'.toks } := I1.kept kk
    refine ⟨.int ns.sum, H1, J, ⟨t', ?_⟩, q⟩
    rw [preSum_sum ns vs.length (by omega), List.take_of_length_le (by omega)]
end
end DL
/-! DL15: list(d.values()), sum(d.values()), sorted(d.items()), len(set(ints)), over data. -/
namespace DL
open PySem PySem.Spec PyProof.Rows L2
open PySem.W (dataLe EachIs)
theorem rel_vals {W : Wd} {H : Hp} {kvs : List (D × D)} {xs : List (Key × V)} (r : Paired (KRel W H) kvs xs) : RelDs W.K H (kvs.map (·.2)) (xs.map (·.2)) := by
  induction r with
  | nil => exact rfl
  | cons a _ ih => exact RelDs.cons a.2 ih
section
variable {X : Cx} {o : Expr} {te : TD} {p apos mpos pos : Pos}
def dListV (te : TD) : TD := fun σ G q => te σ G fun d G1 => dicK d G1 fun kvs => newO (.lst (kvs.map (·.2))) q G1
theorem qe_listV (hc : X.calm = true) (hg : Gl X "list") (hm : X.mg "list" = none) (hd : QE X o te) (hv : bootBuiltins "list" = some (.type "list") := by rfl) (hbase : attributeBase o "values" X.env (eval o X.env) = eval o X.env := by rfl) (hline : (apos.endLine == mpos.line) = true := by rfl)
    (hs : starEach [.Call (.Attribute o "values" apos) [] [] mpos] X.env = (false, eval (.Call (.Attribute o "values" apos) [] [] mpos) X.env) :: starEach [] X.env := by rfl) :
    QE X (.Call (.Name "list" p) [.Call (.Attribute o "values" apos) [] [] mpos] [] pos) (dListV te) :=
  PE.imp (pe_listV hc hg hm hd hv hbase hline hs) fun σ H Q ⟨σd, G, q, hS, hG, h, hw⟩ => ⟨σd, G, _, hS, hG, h, fun x H1 d G1 tk hG1 rd h1 => by
    obtain ⟨a, kvs, xs, rfl, rfl, e1, r1, h2⟩ := dicK_at h1 rd hG1
    exact ⟨a, xs, rfl, e1, fun p hp => new_lst hG1 (hw.mono tk) (rel_vals r1) h2 hp⟩⟩
def dSumV (te : TD) : TD := fun σ G q => te σ G fun d G1 => dicK d G1 fun kvs => ∃ ns : List Int, kvs.map (·.2) = ns.map D.int ∧ q (.int ns.sum) G1
theorem qe_sumV (hc : X.calm = true) (hg : Gl X "sum") (hm : X.mg "sum" = none) (hd : QE X o te) (hv : bootBuiltins "sum" = some (.builtin "sum") := by rfl) (hbase : attributeBase o "values" X.env (eval o X.env) = eval o X.env := by rfl) (hline : (apos.endLine == mpos.line) = true := by rfl)
    (hse : starEach [Expr.Call (.Attribute o "values" apos) [] [] mpos] X.env = [(false, eval (Expr.Call (.Attribute o "values" apos) [] [] mpos) X.env)] := by rfl) :
    QE X (.Call (.Name "sum" p) [.Call (.Attribute o "values" apos) [] [] mpos] [] pos) (dSumV te) :=
  PE.imp (pe_sumV hc hg hm hd hv hbase hline hse) fun σ H Q ⟨σd, G, q, hS, hG, h, hw⟩ => ⟨σd, G, _, hS, hG, h, fun x H1 d G1 tk hG1 rd h1 => by
    obtain ⟨a, kvs, xs, rfl, rfl, e1, r1, ns, hns, h2⟩ := dicK_at h1 rd hG1
    have r2 := rel_vals r1
    rw [hns] at r2
    exact ⟨a, xs, rfl, e1, ns, rel_ints r2, hw (.int _) H1 (.int ns.sum) G1 tk hG1 rfl h2⟩⟩
/-! ### sorted(d.items()) -/
/-- the heap with the tuples -/
def tupH (H : Hp) (as : List Addr) (xs ys : List V) : Hp := fun b => if b ∈ as then some (.tup [xs.getD (as.idxOf b) .non, ys.getD (as.idxOf b) .non]) else H b
def dSortItems (te : TD) : TD := fun σ G q => te σ G fun d G1 => dicK d G1 fun kvs => SortD (pairsD kvs) ∧ ∀ rs, rs = (pairsD kvs).mergeSort (dataLe false enc) → rs.Perm (pairsD kvs) → rs.Pairwise (fun a b => dataLe false enc a b = true) → newO (.lst rs) q G1
theorem qe_sortItems (hc : X.calm = true) (hu : X.A.units + 64 < cLine) (hg : Gl X "sorted") (hm : X.mg "sorted" = none) (hd : QE X o te) (hv : bootBuiltins "sorted" = some (.builtin "sorted") := by rfl) (hbase : attributeBase o "items" X.env (eval o X.env) = eval o X.env := by rfl) (hline : (apos.endLine == mpos.line) = true := by rfl)
    (hse : starEach [Expr.Call (.Attribute o "items" apos) [] [] mpos] X.env = [(false, eval (Expr.Call (.Attribute o "items" apos) [] [] mpos) X.env)] := by rfl) :
    QE X (.Call (.Name "sorted" p) [.Call (.Attribute o "items" apos) [] [] mpos] [] pos) (dSortItems te) := by
  refine ⟨fun pins s σ H Q I h => ?_⟩
  obtain ⟨σd, G, q, hS, hG, h, hw⟩ := h
  refine wpAny_Call_Name_kw (ld_blt I hg hm hv ?_)
  rw [hse]
  refine PySem.callWith_builtin1 (view_items hbase hline hd I (W := fun a xs H1 => ∃ G1 kvs, Tk X.K H H1 ∧ AbsH (wd X) H1 G1 ∧ Paired (KRel (wd X) H1) kvs xs ∧ SortD (pairsD kvs) ∧ ∀ rs, rs = (pairsD kvs).mergeSort (dataLe false enc) → rs.Perm (pairsD kvs) → rs.Pairwise (fun a b => dataLe false enc a b = true) → newO (.lst rs) q G1)
    ⟨σd, G, _, hS, hG, h, fun x H1 d G1 tk hG1 rd h1 => by
      obtain ⟨a, kvs, xs, rfl, rfl, e1, r1, h2⟩ := dicK_at h1 rd hG1
      exact ⟨a, xs, rfl, e1, G1, kvs, tk, hG1, r1, h2⟩⟩ fun a xs H1 s1 vs ep I1 rel dat hz ⟨G1, kvs, tk, hG1, r1, so, h2⟩ => ?_)
  have k1 : ∀ b u, s1.heap.get? b = some u → (s1.heap.push { cls := .type "dict_items", data := .fields #[.ref a] }).get? b = some u := fun b u e => Heap.get?_push_of_some _ e
  have lk : xs.length = vs.length := Paired.length rel
  refine Calls.call_function_entry kind_sorted plain_sorted entry_sorted (args_sorted1 _) ?_
  unfold Builtin.«sorted»
  refine wpAny_bind (m := checkCount "sorted" 1 1 _) (wpAny_pure ?_)
  refine wpAny_bind (PySem.W.kdx_collect (knd := mixKind X.prog X.w) (kvs := vs) (ep := ep) (d := a) (A := X.A.in1) (I1.ok.hd hc) ⟨_, Heap.get?_push_size _ rfl, rfl, rfl⟩ (dat.keep k1) (by omega) fun h' tk2 as kp hal g => ?_)
  have kk : ∀ b u, s1.heap.get? b = some u → h'.get? b = some u := fun b u q => kp b u (k1 b u q)
  have hsz : (s1.heap.push { cls := .type "dict_items", data := .fields #[.ref a] }).objs.size = s1.heap.objs.size + 1 := Heap.size_push ..
  have hi : ∀ t ∈ as, @LT.lt Nat instLTNat s1.heap.objs.size t := fun t ht => by
    have := g.above t ht
    rw [hsz] at this
    exact Nat.lt_of_succ_lt this
  have nd : as.Nodup := List.Pairwise.imp (fun {a b} (h : a < b) => Nat.ne_of_lt h) g.rise
  have hfr : ∀ t ∈ as, H1 t = none := fun t ht => I1.hok.fresh (Nat.le_of_lt (hi t ht))
  generalize hH2 : tupH H1 as (xs.map fun q => kV q.1) (xs.map (·.2)) = H2
  have eT : ∀ t ∈ as, H2 t = some (.tup [(xs.map fun q => kV q.1).getD (as.idxOf t) .non, (xs.map (·.2)).getD (as.idxOf t) .non]) := fun t ht => by
    rw [← hH2]
    unfold tupH
    rw [if_pos ht]
  have eO : ∀ t, t ∉ as → H2 t = H1 t := fun t ht => by
    rw [← hH2]
    unfold tupH
    rw [if_neg ht]
  have old : ∀ t u, H1 t = some u → H2 t = some u := fun t u q => by
    rw [eO t fun z => by rw [hfr t z] at q; cases q]
    exact q
  have atj : ∀ (j : Nat) (t : Addr) (qv : Key × V), as[j]? = some t → xs[j]? = some qv → H2 t = some (.tup [kV qv.1, qv.2]) := fun j t qv hj hx => by
    rw [eT t (List.mem_of_getElem? hj), idx_at nd hj, List.getD_eq_getElem?_getD, List.getD_eq_getElem?_getD, List.getElem?_map, List.getElem?_map, hx]
    rfl
  have J : Inv X pins σ H2 { s1 with heap := h', toks := tk2 } := by
    refine Inv.grow I1 kk old (fun t ob q n => ?_) fun t u q n => ?_
    · rw [eO t fun z => absurd (hi t z) (Nat.lt_asymm (Heap.lt_size q))]
      exact n
    · by_cases ht : t ∈ as
      · obtain ⟨j, hj⟩ := List.mem_iff_getElem?.mp ht
        obtain ⟨key, k, x, f1, f2, f3⟩ := g.pairs j t hj
        obtain ⟨y, g1, g2⟩ := KV.at' rel f1
        rw [atj j t _ hj g1] at q
        cases q
        exact ⟨by show 2 ≤ sizeLine; decide, [key, x], .cons (relV_key (show keyIs k key = true from f2)) (.cons g2 .nil), ⟨_, f3, rfl, _, rfl⟩⟩
      · rw [eO t ht, n] at q
        cases q
  have tk1 : Tk X.K H1 H2 := Tk.ext old
  have hal2 : as.length = kvs.length := by rw [hal, ← lk, ← Paired.length r1]
  have ea : EachIs (IsD X.K H2) (as.map Value.ref) (pairsD kvs) := by
    refine vals_each (vals_of_addrs as) (rel_pairs tk1 r1 (paired_of (by omega) fun j t qv hj hx => atj j t qv hj hx))
  generalize hvs : as.map Value.ref = ws at ea
  have hwl : ws.length = kvs.length := by rw [← hvs, List.length_map, hal2]
  have hkz : kvs.length ≤ sizeLine := by rw [Paired.length r1]; exact hz
  refine wpAny_bind (wpAny_newList ?_ (by rw [hwl]; exact hkz))
  have hoL : (h'.push (seqObj "list" ws.toArray 0)).get? h'.objs.size = some (seqObj "list" ws.toArray 0) := Heap.get?_push_size _ rfl
  have er : EachIs (fun v b => ∃ as, Reads (h'.push (seqObj "list" ws.toArray 0)) v (enc b) as ∧ h'.objs.size ∉ as) ws (pairsD kvs) :=
    each_imp (fun v d _ hd ⟨as, r⟩ => by
      obtain ⟨p, hp, _⟩ := so.dt d hd
      have : enc d = p := by unfold enc; rw [hp]; rfl
      rw [this] at r ⊢
      refine ⟨as, PyProof.Rows.Reads.keeps (fun _ _ q => Heap.get?_push_of_some _ q) r, ?_⟩
      rw [reads_flat hp r]
      exact fun z => nomatch z) (reads_of J so ea)
  have hpl : (pairsD kvs).length = kvs.length := by unfold pairsD; rw [List.length_map]
  refine wpAny_bind (wpAny_holding (PySem.W.list_sort_data (s := { s1 with heap := h'.push (seqObj "list" ws.toArray 0), toks := tk2 }) (R := IsD X.K H2) hoL ea er so.al so.so (by rw [hpl]; exact hkz) (fun b hb => by
    have := so.deep b hb
    simp only [Around.in1_units]
    omega) fun out hol eo => ?_))
  obtain ⟨c, hcc⟩ := sortedHeap_at (vs := ws) (out := out.toArray) hoL
  obtain ⟨zs, rv, rr⟩ := each_vals eo
  have old2 : ∀ b u, h'.get? b = some u → (sortedHeap (h'.push (seqObj "list" ws.toArray 0)) h'.objs.size ws out.toArray).get? b = some u := fun b u e => by
    have hlt := Heap.lt_size e
    rw [sortedHeap_old (Nat.ne_of_lt hlt) (by rw [Heap.size_push]; exact Nat.lt_succ_of_lt hlt)]
    exact Heap.get?_push_of_some _ e
  have hn : H2 h'.objs.size = none := J.hok.fresh (Nat.le_refl _)
  have hxl : zs.length ≤ sizeLine := by
    rw [rv.length, hol, hpl]
    exact hkz
  have J2 := J.laid (o := .lst zs) (t' := tk2) old2 (Nat.le_refl _) ⟨hxl, out, c, rv, hcc⟩
  exact wpAny_pure ⟨_, rfl, .ref h'.objs.size, _, J2, rfl, new_lst (hG1.ext old) (hw.mono (tk.trans tk1)) rr (h2 _ rfl (List.mergeSort_perm _ _) (PySem.W.sort_pairwise dataLe_total _)) hn⟩
where paired_of : ∀ {F : Addr → Key × V → Prop} {as : List Addr} {xs : List (Key × V)}, as.length = xs.length → (∀ (j : Nat) t q, as[j]? = some t → xs[j]? = some q → F t q) → Paired F as xs
  | _, [], [], _, _ => .nil
  | _, a :: as, x :: xs, hl, h => .cons (h 0 a x rfl rfl) (paired_of (by simpa using hl) fun j t q h1 h2 => h (j + 1) t q (by simpa using h1) (by simpa using h2))
/-! ### len(set(xs)), xs ints -/
theorem ints_are : ∀ {ns : List Int} {us : List Value}, Vals (ns.map V.int) us → IntsAre us ns
  | [], _, .nil => .nil
  | n :: ns, _, .cons r t => by
    obtain ⟨tk, rfl⟩ := r
    exact .cons n tk (ints_are t)
def SetIO (P : Program) (w : World) (a : Addr) (n : Nat) : HO := .ext fun h => ∃ S, h.SetOf (intKind P w) a S n
def rSetI (X : Cx) : List V → Hp → VK → Prop := fun xs H Q => ∃ (l : Addr) (ns : List Int), xs = [V.ref l] ∧ SqL X.K H l (ns.map V.int) ∧ ns.length < 4000 ∧ ∀ a, H a = none → Q (.ref a) (upd H a (SetIO X.prog X.w a (firstMet (fun i => ns.getD i 0) ns.length).length))
theorem cr_setI (hc : X.calm = true) : CallR X (.type "set") (rSetI X) := by
  intro pins s σ H xs us Q I r h
  obtain ⟨l, ns, rfl, hl, hf, q⟩ := h
  rw [Vals.ref1 r]
  obtain ⟨its, rv, pl, hz⟩ := I.list hl
  have hlen : its.length = ns.length := by rw [← rv.length, List.length_map]
  refine PySem.call_set_list (ns := ns) (I.ok.hd hc) pl.isList (by simpa using ints_are rv) (by rw [List.size_toArray, hlen]; unfold scanBound; omega) fun h' tk hS k => ?_
  rw [show its.toArray.size = ns.length from hlen] at hS
  have kk : ∀ b u, s.heap.get? b = some u → h'.get? b = some u := fun b u e => k b u (Heap.lt_size e) e
  have hn : H s.heap.objs.size = none := I.hok.fresh (Nat.le_refl _)
  have J := I.laid (o := SetIO X.prog X.w s.heap.objs.size (firstMet (fun i => ns.getD i 0) ns.length).length) (t' := tk) kk (Nat.le_refl _) (by
    refine ⟨⟨_, hS⟩, ?_, fun h1 h2 p k => ?_⟩
    · obtain ⟨o, _, _, _, ho, _⟩ := hS
      exact ⟨o, ho⟩
    · obtain ⟨S, o, es, ep, t, ho, r⟩ := p
      exact ⟨S, o, es, ep, t, k o ho, r⟩)
  exact ⟨.ref s.heap.objs.size, _, J, rfl, q _ hn⟩
def rLenI (X : Cx) : List V → Hp → VK → Prop := fun xs H Q => ∃ a n, xs = [V.ref a] ∧ H a = some (SetIO X.prog X.w a n) ∧ n < 4096 ∧ Q (.int n) H
theorem cr_lenI : CallR X (.builtin "len") (rLenI X) := by
  intro pins s σ H xs us Q I r h
  obtain ⟨a, n, rfl, ha, hn, q⟩ := h
  rw [Vals.ref1 r]
  obtain ⟨S, o, es, ep, t, ho, hex, hd, _, _, hb, hf, en⟩ : ∃ S, s.heap.SetOf (intKind X.prog X.w) a S n := (I.hok a _ ha).1
  subst en
  refine call_len_set ho hex hd hf (by have : (es.size : Int) < 4096 := by omega
                                       exact Int.lt_of_lt_of_le this (by decide)) ?_
  exact ⟨.int es.size, H, I.tok _, ⟨_, rfl⟩, q⟩
def dLenSetI (te : TD) : TD := fun σ G q => te σ G fun d G1 => lisK d G1 fun es => ∃ ns : List Int, es = ns.map D.int ∧ ns.length < 4000 ∧ q (.int (firstMet (fun i => ns.getD i 0) ns.length).length) G1
theorem qe_lenSetI {a : Expr} {ta : TD} {p2 q2 : Pos} (hc : X.calm = true) (hg : Gl X "len") (hm : X.mg "len" = none) (hg2 : Gl X "set") (hm2 : X.mg "set" = none) (ha : QE X a ta)
    (hv : bootBuiltins "len" = some (.builtin "len") := by rfl) (hv2 : bootBuiltins "set" = some (.type "set") := by rfl)
    (hs2 : starEach [a] X.env = (false, eval a X.env) :: starEach [] X.env := by rfl) (hpl2 : (backTo q2 (starEach [] X.env)).any (·.1) = false := by rfl)
    (hs : starEach [.Call (.Name "set" p2) [a] [] q2] X.env = (false, eval (.Call (.Name "set" p2) [a] [] q2) X.env) :: starEach [] X.env := by rfl) (hpl : (backTo pos (starEach [] X.env)).any (·.1) = false := by rfl) :
    QE X (.Call (.Name "len" p) [.Call (.Name "set" p2) [a] [] q2] [] pos) (dLenSetI ta) :=
  PE.imp (pe_callB cr_lenI hg hm hv (pa_cons (pe_callTy (cr_setI hc) hg2 hm2 hv2 (pa_cons ha pa_nil hs2) (by decide) (by decide) hs2 hpl2) pa_nil hs) (by decide) (by decide) hs hpl) fun σ H Q ⟨σd, G, q, hS, hG, h, hw⟩ =>
    ⟨σd, G, _, hS, hG, h, fun x H1 d G1 tk hG1 rd h1 => by
      obtain ⟨b, ds, xs, rfl, rfl, hq, rr, ns, rfl, hl, h2⟩ := lisK_of h1 rd hG1
      have e := rel_ints rr
      subst e
      refine ⟨b, ns, rfl, hq, hl, fun c hcn => ?_⟩
      have tk2 : Tk X.K H1 (upd H1 c (SetIO X.prog X.w c (firstMet (fun i => ns.getD i 0) ns.length).length)) := Tk.new hcn
      refine ⟨c, _, rfl, upd_same, by have := firstMet_length_le (fun i => ns.getD i 0) ns.length; omega, ?_⟩
      exact hw (.int _) _ (.int _) G1 (tk.trans tk2) (hG1.laid hcn) rfl h2⟩
end
end DL
/-! DL16: calls of own defs by names alone; repr; the law's own call, with what stands around it known. -/
namespace DL
open PySem PySem.Spec PyProof.Rows L2
/-! ### f(a=.., b=..) -/
def oneW {α : Type} : List α → List α → List α
  | [], [w] => [w]
  | _, _ => []
def twoW {α : Type} : List α → List α → List α
  | [], [v, w] => [w, v]
  | _, _ => []
theorem vals_one {vs : List V} {us : List Value} {zs : List V} {ws : List Value} (r : Vals vs us) (q : Vals zs ws) : Vals (oneW vs zs) (oneW us ws) := by
  cases r with
  | cons _ _ => exact .nil
  | nil =>
    cases q with
    | nil => exact .nil
    | cons a t =>
      cases t with
      | nil => exact .cons a .nil
      | cons _ _ => exact .nil
theorem vals_two {vs : List V} {us : List Value} {zs : List V} {ws : List Value} (r : Vals vs us) (q : Vals zs ws) : Vals (twoW vs zs) (twoW us ws) := by
  cases r with
  | cons _ _ => exact .nil
  | nil =>
    cases q with
    | nil => exact .nil
    | cons a t =>
      cases t with
      | nil => exact .nil
      | cons b t =>
        cases t with
        | nil => exact .cons b (.cons a .nil)
        | cons _ _ => exact .nil
theorem rels_one {K : PySem.W.Frag} {H : Hp} {ds es : List D} {vs zs : List V} (r : RelDs K H ds vs) (q : RelDs K H es zs) : RelDs K H (oneW ds es) (oneW vs zs) := by
  cases ds with
  | cons _ _ =>
    obtain ⟨_, _, rfl, _⟩ := r
    exact rfl
  | nil =>
    obtain rfl : vs = [] := r
    cases es with
    | nil =>
      obtain rfl : zs = [] := q
      exact rfl
    | cons d es =>
      obtain ⟨y, yr, rfl, q1, q2⟩ := q
      cases es with
      | nil =>
        obtain rfl : yr = [] := q2
        exact ⟨y, [], rfl, q1, rfl⟩
      | cons _ _ =>
        obtain ⟨_, _, rfl, _⟩ := q2
        exact rfl
theorem rels_two {K : PySem.W.Frag} {H : Hp} {ds es : List D} {vs zs : List V} (r : RelDs K H ds vs) (q : RelDs K H es zs) : RelDs K H (twoW ds es) (twoW vs zs) := by
  cases ds with
  | cons _ _ =>
    obtain ⟨_, _, rfl, _⟩ := r
    exact rfl
  | nil =>
    obtain rfl : vs = [] := r
    cases es with
    | nil =>
      obtain rfl : zs = [] := q
      exact rfl
    | cons d es =>
      obtain ⟨y, yr, rfl, q1, q2⟩ := q
      cases es with
      | nil =>
        obtain rfl : yr = [] := q2
        exact rfl
      | cons e es =>
        obtain ⟨z, zr, rfl, q3, q4⟩ := q2
        cases es with
        | nil =>
          obtain rfl : zr = [] := q4
          exact ⟨z, [y], rfl, q3, y, [], rfl, q1, rfl⟩
        | cons _ _ =>
          obtain ⟨_, _, rfl, _⟩ := q4
          exact rfl
section
variable {K : PySem.W.Frag} {x qual : Str} {params : Arguments} {body : List Stmt} {scope : Scope} {kws : List (Str × V)} {f : Addr} {fd : FuncData}
theorem kb_one {a : Str} (F : FunD K x qual params body scope [] kws f fd) (h : ∀ (kV doc pm : Value) (an : Option Addr) (cdv ct w : Value), bindArgs (PySem.W.fnOf x qual params body scope .none kV doc pm an cdv ct) ⟨[], [(a, w)]⟩ = pure [(a, w)]) : KBinds K fd [a] [a] oneW oneW := by
  obtain ⟨oc, od, dV, kV, doc, pm, an, cdv, ct, osl, rfl, lk, hcd, hD, hK⟩ := F.ex
  rcases hD with ⟨_, rfl⟩ | ⟨e, _⟩
  · refine ⟨fun s us ws _ hl => ?_, vals_one⟩
    match us, ws, hl with
    | [], [w], _ => exact BindsTo.of_eq (h kV doc pm an cdv ct w)
  · exact absurd rfl e
theorem kb_two {a b : Str} (F : FunD K x qual params body scope [] kws f fd) (h : ∀ (kV doc pm : Value) (an : Option Addr) (cdv ct v w : Value), bindArgs (PySem.W.fnOf x qual params body scope .none kV doc pm an cdv ct) ⟨[], [(b, v), (a, w)]⟩ = pure [(a, w), (b, v)]) : KBinds K fd [a, b] [b, a] twoW twoW := by
  obtain ⟨oc, od, dV, kV, doc, pm, an, cdv, ct, osl, rfl, lk, hcd, hD, hK⟩ := F.ex
  rcases hD with ⟨_, rfl⟩ | ⟨e, _⟩
  · refine ⟨fun s us ws _ hl => ?_, vals_two⟩
    match us, ws, hl with
    | [], [v, w], _ => exact BindsTo.of_eq (h kV doc pm an cdv ct v w)
  · exact absurd rfl e
end
section
variable {X : Cx} {CX : CXT} {k : Nat} {f : Addr} {fd : FuncData} {ps ks : List Str} {sp : Sp} {E : XK} {x : Str} {p pos : Pos} {kws : List Keyword} {tk : TA} {g : List Value → List Value → List Value} {gV : List V → List V → List V}
theorem pe_callK0 (F : FnOk X.prog X.w X.K X.mg X.base CX k f fd ps sp) (hr : Room k X.A) (hg : Gl X x) (hm : X.mg x = some (.ref f)) (hk : PySem.W.keepIn X.K (.ref f) = true) (hb : KBinds X.K fd ps ks g gV) (hx : Passes CX X E)
    (hkw : PK X kws tk) (hall : (backToKw pos (keywordEach kws X.env)).all (·.1.isSome) = true := by rfl) (hks : (backToKw pos (keywordEach kws X.env)).filterMap (·.1) = ks := by rfl)
    (hdb : (x == ("__debug__" : Str)) = false := by decide) (hpl : ((backTo pos (starEach [] X.env)).any (·.1) || (backToKw pos (keywordEach kws X.env)).any (·.1.isNone)) = false := by rfl) :
    PE X (.Call (.Name x p) [] kws pos) (tCallK sp gV E tNil tk) := by
  refine ⟨fun pins s σ H Q I h => ?_⟩
  refine wpAny_Call_Name_kw (ld_glob I hg hm ?_ hdb)
  refine PySem.W.callWith_KW0 (h₀ := X.base) I.ok.mod.kin hk hall (thn (hkw.run pos pins s σ H _ I h) fun ws s2 ⟨zs, H2, I2, rz, q2⟩ => ⟨I2.kIn, ?_⟩) hpl
  rw [hks]
  exact run_fnk F hr hb hx I2 .nil rz q2
/-- keywords' values over data -/
abbrev QK (X : Cx) (kws : List Keyword) (t : TAd) : Prop := PK X kws (liftA (wd X) t)
theorem qk_nil : QK X [] dNil := ⟨fun pos pins s σ H Q I ⟨σd, G, q, hS, hG, h, hw⟩ => pk_nil.run pos pins s σ H Q I (hw [] H [] G Tk.refl hG rfl h)⟩
theorem qk_cons {e : Expr} {te : TD} {ta : TAd} {nm : Option Str} {kpos : Pos} (he : QE X e te) (hr : QK X kws ta) : QK X (⟨nm, e, kpos⟩ :: kws) (dCons te ta) :=
  ⟨fun pos pins s σ H Q I ⟨σd, G, q, hS, hG, h, hw⟩ => (pk_cons he hr).run pos pins s σ H Q I ⟨σd, G, _, hS, hG, h, fun v H1 d G1 tk hG1 r h1 =>
    ⟨σd, G1, _, hS.mono tk, hG1, h1, fun vs H2 ds G2 tk2 hG2 r2 h2 => hw _ H2 _ G2 (tk.trans tk2) hG2 (RelDs.cons (r.mono tk2) r2) h2⟩⟩⟩
def dCallK (S : SpD) (gD : List D → List D → List D) (ta : TAd) : TD := fun σ G q => ta σ G fun es G1 => S (gD [] es) G1 q
variable {S : SpD} {ta : TAd} {gD : List D → List D → List D}
theorem qe_callK0 (F : FnOk X.prog X.w X.K X.mg X.base CX0 k f fd ps (liftSp (wd X) S)) (hr : Room k X.A) (hg : Gl X x) (hm : X.mg x = some (.ref f)) (hk : PySem.W.keepIn X.K (.ref f) = true) (hb : KBinds X.K fd ps ks g gV)
    (hD : ∀ {H : Hp} {ds es : List D} {vs zs : List V}, RelDs X.K H ds vs → RelDs X.K H es zs → RelDs X.K H (gD ds es) (gV vs zs)) (hkw : QK X kws ta)
    (hall : (backToKw pos (keywordEach kws X.env)).all (·.1.isSome) = true := by rfl) (hks : (backToKw pos (keywordEach kws X.env)).filterMap (·.1) = ks := by rfl)
    (hdb : (x == ("__debug__" : Str)) = false := by decide) (hpl : ((backTo pos (starEach [] X.env)).any (·.1) || (backToKw pos (keywordEach kws X.env)).any (·.1.isNone)) = false := by rfl) :
    QE X (.Call (.Name x p) [] kws pos) (dCallK S gD ta) :=
  PE.imp (pe_callK0 F hr hg hm hk hb pass0 hkw hall hks hdb hpl) fun σ H Q ⟨σd, G, q, hS, hG, h, hw⟩ => ⟨σd, G, _, hS, hG, h, fun zs H1 es G1 tk hG1 rr h1 => ⟨_, G1, q, hD (H := H1) (ds := []) rfl rr, hG1, h1, hw.mono tk⟩⟩
/-! ### repr, where what stands around is known -/
def rRepr : RNd := fun ds G q => arg1 ds fun d => ∃ es, d = .tup es ∧ ∃ p, dat d = some p ∧ p.showable = true ∧ p.hasDict = false ∧ p.depth ≤ 16 ∧ p.shown.length ≤ sizeLine ∧ q (.str p.shown) G
theorem cd_repr (hgd : X.A.guards = some []) (hu : X.A.units + 64 < cLine) : CallR X (.builtin "repr") (liftN (wd X) rRepr) := by
  intro pins s σ H xs us Q I r h
  obtain ⟨ds, G, q, rr, hG, h, hw⟩ := h
  obtain ⟨d, v, rfl, rfl, rd, es, rfl, p, hp, hs, hd, hdep, hsz, h⟩ := arg1_of h rr
  have rd0 := rd
  obtain ⟨a, ys, rfl, hq, _⟩ := rd
  obtain ⟨as, hr⟩ := Dp.reads I p (.ref a) (.ref a) (dat_dp rd0 hp) rfl
  rw [Vals.ref1 r]
  exact repr_of_reads' hr hs (by rw [hd]; exact fun z => nomatch z) hgd (by omega) (fun _ _ e => e) (fun h' u tk k => ⟨.str p.shown, H, I.kept (t' := tk) k, ⟨u, rfl⟩, hw _ H (.str _) G Tk.refl hG rfl h⟩) hsz
end
end DL
/-! DL17: y = {k: v for ..}; names; -n; small words for derivations. -/
namespace DL
open PySem PySem.Spec PyProof.Rows L2
section
variable {X : Cx}
theorem ps_setDc {i : Nat} {y : Str} {py : Pos} {kx vx tg iter : Expr} {ifs : List Expr} {scope : Scope} {own : List (Str × Nat)} {pos spos : Pos} {wi : TI} {g : TG} {tt : TT} {tk tv : TE} (hc : X.calm = true) (hN : X.N.Nodup) (hy : X.N[i]? = some y) (hyl : X.env.scope.names.lookup y = some .local)
    (hsw : swapsWith (.DictComp kx vx [⟨tg, iter, ifs, 0⟩] scope pos) (some (.Name y py)) spos.line X.env = pure true) (hi : PI X tg iter wi) (ok : BlkOk X.N X.env.scope scope own)
    (hg : Blk X scope fun Y => PG Y tg g) (ht : Blk X scope fun Y => PTs Y ifs tt) (hk : Blk X scope fun Y => PE Y kx tk) (he : Blk X scope fun Y => PE Y vx tv) (hs : ∀ x, foldedSetIterable iter X.env x = pure x := by intro _; rfl) :
    PS X (.Assign [.Name y py] (.DictComp kx vx [⟨tg, iter, ifs, 0⟩] scope pos) spos) (tAsg (tDc wi g tt tk tv (own.map (·.2))) (gName i)) := by
  refine ⟨fun pins s σ H D I h => ?_⟩
  rw [exec_Assign_Name_used _ _ _ _ hsw]
  refine wpAny_bind (wpAny_standAt (wpAny_bind ?_))
  show wpAny _ X.A (do let _ ← comprehension (.DictComp kx vx [⟨tg, iter, ifs, 0⟩] scope pos) scope X.env (firstIterPos [⟨tg, iter, ifs, 0⟩] pos) newDict false (eval iter X.env) (some (assign (.Name y py) X.env))) _ _ s
  have h2 : tDc wi g tt tk tv (own.map (·.2)) σ H (fun x H1 => gName i x σ H1 D.nx) := h
  refine wpAny_bind (thn (dc_core (Qf := fun _ s' => SP X pins D .next s') hc hN I hi ok hg ht hk he hs h2 fun L C s' m H' I' q hn f => ?_) fun _ s' hq => wpAny_pure (wpAny_pure hq))
  show wpAny _ _ (assign (.Name y py) X.env (.ref L)) _ _ _
  refine wpAny_assign_Name (store_ok2 (v := V.ref L) I' hN hy (.inl hyl) rfl (fun s2 I2 ⟨a, sb, ha⟩ => ?_) (.inr hyl))
  obtain ⟨f0, f1, f2, f3, f4, f5⟩ := f
  have haC : C ≠ a := by
    rcases ha with z | z
    · rw [z]; exact f1
    · exact fun e => f4 y a z e.symm
  exact ⟨m, hn.sameBut sb haC, fun h3 sb3 => ⟨_, H', I2.turned (t' := s2.toks) (fun b o hb e => (sb3.2 b hb).trans e) f0 f1 f3 f4 f5, q⟩⟩
theorem qs_setDc {i : Nat} {y : Str} {py : Pos} {kx vx tg iter : Expr} {ifs : List Expr} {scope : Scope} {own : List (Str × Nat)} {pos spos : Pos} {ti : TId} {p : Pat} {tt : TTd} {tk tv : TD} (hc : X.calm = true) (hN : X.N.Nodup) (hy : X.N[i]? = some y) (hyl : X.env.scope.names.lookup y = some .local)
    (hsw : swapsWith (.DictComp kx vx [⟨tg, iter, ifs, 0⟩] scope pos) (some (.Name y py)) spos.line X.env = pure true) (hi : QI X tg iter ti) (ok : BlkOk X.N X.env.scope scope own) (hv : ∀ i ∈ p.slots, i ∈ own.map (·.2))
    (hg : Blk X scope fun Y => PG Y tg (patV X.K p)) (ht : Blk X scope fun Y => QTs Y ifs tt) (hk : Blk X scope fun Y => QE Y kx tk) (he : Blk X scope fun Y => QE Y vx tv) (hs : ∀ x, foldedSetIterable iter X.env x = pure x := by intro _; rfl) :
    QS X (.Assign [.Name y py] (.DictComp kx vx [⟨tg, iter, ifs, 0⟩] scope pos) spos) (dAsg (dDc ti p tt tk tv (own.map (·.2))) (dName i)) :=
  PS.imp (ps_setDc hc hN hy hyl hsw hi ok hg ht hk he hs) fun F σ H h => by
    obtain ⟨σd, G, E, hS, hG, h, l⟩ := h
    exact lift_dc hv ⟨σd, G, _, hS, hG, h, fun v H1 d G1 tk hG1 r h1 => l.nx _ H1 _ G1 tk ((hS.mono tk).set r) hG1 h1⟩
theorem sw_dc {kx vx : Expr} {gs : List Comprehension} {scope : Scope} {pos py : Pos} {y : Str} {l : Nat} {env : Env} (hk : env.scope.kind = .function) (hy : env.scope.names.lookup y = some .local) (hl : (py.line == pos.line) = true)
    (ha : (scope.names.any fun (n, k) => n == y && (k == .local || k == .cell)) = false) : swapsWith (.DictComp kx vx gs scope pos) (some (.Name y py)) l env = pure true := by
  have ky : env.kindOf y = some .local := hy
  have hb : env.blockKind = .function := by unfold Env.blockKind; rw [hk]; rfl
  unfold swapsWith
  simp only [hb, ky, ha, Expr.pos, hl]
  rfl
theorem qv (i : Nat) {x : Str} {pos : Pos} (hN : X.N[i]? = some x := by rfl) (hv : Vis X.env.scope x := by first | exact Or.inl rfl | exact Or.inr (Or.inl rfl) | exact Or.inr (Or.inr rfl)) (hd : (x == ("__debug__" : Str)) = false := by decide)
    (hcd : (x == ("__classdict__" : Str)) = false := by decide) : QE X (.Name x pos) (dVar i) := qe_var hN hv hd hcd
theorem qvF (i : Nat) {x : Str} {pos : Pos} (hN : X.N[i]? = some x := by rfl) (hv : Vis X.env.scope x := by first | exact Or.inl rfl | exact Or.inr (Or.inl rfl) | exact Or.inr (Or.inr rfl)) (hd : (x == ("__debug__" : Str)) = false := by decide)
    (hcd : (x == ("__classdict__" : Str)) = false := by decide) : QE X (.Name x pos) (dVarF i) := qe_varF hN hv hd hcd
def rNeg : D → Gp → QD → Prop := fun d G q => isI d fun i => q (.int (-i)) G
theorem ud_neg : UnR X (unaryOp .USub) (lift1 (wd X) rNeg) := by
  intro pins s σ H x v Q I rx h
  obtain ⟨d, G, q, rd, hG, h, hw⟩ := h
  obtain ⟨i, rfl, rfl, h⟩ := isI_of h rd
  exact un_neg pins s σ H _ v Q I rx ⟨i, rfl, hw _ H (.int (-i)) G Tk.refl hG rfl h⟩
theorem room_u {k : Nat} {A : Around} (r : Room k A) : A.units + 64 < cLine := by
  have := r.un
  omega
end
end DL
/-! DL18: list(range(a, b)). -/
namespace DL
open PySem PySem.Spec PyProof.Rows L2
section
variable {X : Cx} {ta tb : TD}
theorem rel_imap {K : PySem.W.Frag} {H : Hp} {α : Type} (f : α → Int) : ∀ xs : List α, RelDs K H (xs.map fun i => .int (f i)) (xs.map fun i => .int (f i))
  | [] => RelDs.nil
  | x :: r => RelDs.cons (show RelD K H (.int (f x)) (.int (f x)) from rfl) (rel_imap f r)
def dRgD (a b : Int) : List D := (List.range (b - a).toNat).map fun i => .int (a + (i : Nat))
def dListR2 (ta tb : TD) : TD := fun σ G q => ta σ G fun x G1 => tb σ G1 fun y G2 => isI x fun a => isI y fun b => RgOk a b ∧ newO (.lst (dRgD a b)) q G2
theorem qe_listRange2 {a b : Expr} {p p2 pos pos2 : Pos} (hc : X.calm = true) (hg : Gl X "list") (hm : X.mg "list" = none) (hg2 : Gl X "range") (hm2 : X.mg "range" = none) (ha : QE X a ta) (hb : QE X b tb)
    (na : starEach [a, b] X.env = (false, eval a X.env) :: starEach [b] X.env := by rfl) (nb : starEach [b] X.env = (false, eval b X.env) :: starEach [] X.env := by rfl) (hp : (backTo pos2 (starEach [b] X.env)).any (·.1) = false := by rfl)
    (hs : starEach [.Call (.Name "range" p2) [a, b] [] pos2] X.env = (false, eval (.Call (.Name "range" p2) [a, b] [] pos2) X.env) :: starEach [] X.env := by rfl) : QE X (.Call (.Name "list" p) [.Call (.Name "range" p2) [a, b] [] pos2] [] pos) (dListR2 ta tb) :=
  PE.imp (pe_listRg hc hg hm (prg_2 hg2 hm2 ha hb na nb hp) hs) fun σ H Q ⟨σd, G, q, hS, hG, h, hw⟩ => ⟨σd, G, _, hS, hG, h, fun v H1 d G1 tk hG1 rd h1 => ⟨σd, G1, _, hS.mono tk, hG1, h1, fun u H2 e G2 tk2 hG2 re h2 => by
    obtain ⟨i, rfl, rfl, h3⟩ := isI_of h2 (rd.mono tk2)
    obtain ⟨j, rfl, rfl, h4, h5⟩ := isI_of h3 re
    exact ⟨i, j, rfl, rfl, h4, fun p hp => new_lst hG2 (hw.mono (tk.trans tk2)) (rel_imap _ _) h5 hp⟩⟩⟩
end
end DL
/-! DL19: sum of a list, of a tuple. -/
namespace DL
open PySem PySem.Spec PyProof.Rows L2
section
variable {X : Cx}
def rSumA : RNd := fun ds G q => arg1 ds fun d => match d with
  | .tup es => ∃ ns : List Int, es = ns.map D.int ∧ q (.int ns.sum) G
  | d => lisK d G fun es => ∃ ns : List Int, es = ns.map D.int ∧ q (.int ns.sum) G
theorem cd_sumA (hc : X.calm = true) : CallR X (.builtin "sum") (liftN (wd X) rSumA) := by
  intro pins s σ H xs us Q I r h
  obtain ⟨ds, G, q, rr, hG, h, hw⟩ := h
  obtain ⟨d, v, rfl, rfl, rd, h⟩ := arg1_of h rr
  cases d with
  | tup es =>
    obtain ⟨ns, rfl, hk2⟩ := h
    obtain ⟨a, ys, rfl, hq, r1⟩ := rd
    have e := rel_ints r1
    subst e
    obtain ⟨its, rv, ht, hz⟩ := I.tuple hq
    rw [Vals.ref1 r]
    have hi := rv.ints
    obtain ⟨xs, e⟩ := hi.allInts.items
    have hn : numsOf (intItems xs).toList = ns := by rw [← e]; exact hi.numsOf
    rw [nums_intItems] at hn
    rw [e] at ht
    refine PySem.W.ktm_sumG (I.ok.hd hc) ht fun h' tk t' hk => ?_
    rw [preSum_eq, List.take_of_length_le (by simp), hn]
    exact ⟨.int _, H, I.kept hk, ⟨_, rfl⟩, hw _ H (.int _) G Tk.refl hG rfl hk2⟩
  | _ => exact cd_sum hc pins s σ H _ us Q I r ⟨_, G, q, rr, hG, h, hw⟩
end
end DL
/-! DL20: a list, whatever it holds, against an empty one. -/
namespace DL
open PySem PySem.Spec PyProof.Rows L2
section
variable {X : Cx}
def rNeNil : R2d := fun d e G q => match d, e with
  | .ref a, .ref b => ∃ ds, ListAt G a ds ∧ G b = some (.lst []) ∧ q (.bl (!ds.isEmpty)) G
  | _, _ => False
theorem od_neNil (hu : X.A.units + 64 < cLine) : OpR X (compareOp .NotEq) (lift2 (wd X) rNeNil) := by
  intro pins s σ H x y v u Q I rx ry h
  obtain ⟨d, e, G, q, rd, re, hG, h, hw⟩ := h
  unfold rNeNil at h
  split at h
  · rename_i a b
    obtain ⟨ds, hl, hb, h⟩ := h
    obtain rfl : x = .ref a := rd
    obtain rfl : y = .ref b := re
    cases rx
    cases ry
    obtain ⟨xs, hq, rr⟩ := hl.rd hG
    obtain ⟨its, rv, pl, hz⟩ := I.list (.inl hq)
    obtain ⟨ys, hq2, rr2⟩ := hG b _ hb
    obtain rfl : ys = [] := rr2
    obtain ⟨its2, rv2, pl2, hz2⟩ := I.list (SqL.of hq2)
    cases rv2
    have hlen : its.length = ds.length := by rw [← rv.length, rr.length]
    have done : Q (.bl (!ds.isEmpty)) H := hw _ H (.bl _) G Tk.refl hG rfl h
    by_cases hn : its.toArray.size = ([] : List Value).toArray.size
    · have h0 : ds = [] := List.length_eq_zero_iff.mp (by rw [← hlen]; simpa using hn)
      subst h0
      have h1 : its = [] := List.length_eq_zero_iff.mp (by simpa using hlen)
      subst h1
      exact SeqAt.RcNeAt.lists (e := fun _ => true) pl.isList pl2.isList hn (by omega) (fun j h1 h2 => by simp at h2) X.prog X.w X.xe _ ⟨.bl false, H, I, rfl, done⟩
    · have h0 : ds.isEmpty = false := by
        cases ds with
        | nil => exact absurd (by simpa using hlen) hn
        | cons d ds => rfl
      rw [h0] at done
      exact SeqAt.RcNeAt.lists_lengths pl.isList pl2.isList (by simpa using hn) (by omega) X.prog X.w X.xe _ ⟨.bl true, H, I, rfl, done⟩
  · exact h.elim
end
end DL
/-! H1: the law's own def, where what stands around its call is known (repr asks for it). -/
namespace DL
open PySem PySem.Spec PyProof.Rows L2
/-- what a def promises where the head calls it -/
structure FnC (P : Program) (w : World) (K : PySem.W.Frag) (mg : Str → Option Value) (base : Heap) (f : Addr) (fd : FuncData) (ps : List Str) (sp : Sp) : Prop where
  go : ∀ (out : List Env) (s0 : Shared) (H : Hp) (ar : Args) (us : List Value) (vs : List V) (Q : VK) (E : XK),
    Env0 P w K mg base callerA out s0 H → BindsTo s0 fd ar (ps.zip us) → Vals vs us → sp vs H Q E →
      codeAny (model P w) callerA (.call (.ref f) ar) (CR CX0 out P w H s0 Q E) s0
section
variable {P : Program} {w : World} {K : PySem.W.Frag} {mg : Str → Option Value} {base : Heap} {x qual : Str} {params : Arguments} {body : List Stmt} {scope : Scope} {N ps : List Str} {k : Nat} {f : Addr} {fd : FuncData} {S : SpD}
/-- by its body's reading over data -/
theorem okC (F : FunD K x qual params body scope [] [] f fd) (Sc : FnScope N ps scope) (room : Room (k + 1) callerA)
    (len : ∀ ds G q, S ds G q → ds.length = ps.length) (t : TSd)
    (der : ∀ (cdv : Value) (outer : List Env) (s : Shared) (H : Hp) (E : XK), QSs (cxOf CX0 P w K mg base N qual scope f cdv callerA outer s H E) body t)
    (rd : ∀ ds G q, S ds G q → t { nx := fun _ G' => fin (q .non) G', rt := fun d G' => fin (q d) G' } (startD N ds) G) :
    FnC P w K mg base f fd ps (liftSp ⟨K, P, w⟩ S) := by
  obtain ⟨oc, od, dV, kV, doc, pm, an, cdv, ct, osl, rfl, look, hcd, _, _⟩ := F.ex
  constructor
  intro out s0 H ar us vs Q E en bd rv want
  obtain ⟨ds, G, q, rr, hG, hS, hw⟩ := want
  have cnt : vs.length = ps.length := rr.length.trans (len ds G q hS)
  have inK : K.In s0.heap := en.mod.kin.keeps fun b o e => And.left (en.bs b o e)
  have free : s0.heap.NoLimit := en.mod.nolimit.keeps fun b o e => And.left (en.bs b o e)
  refine codeAny_call_function room.depth (inK _ _ look) rfl Sc.co Sc.gen rfl
    (PySem.W.codeRec_of inK hcd) (bd _ _ _ _ ?_)
  refine wpAny_newFunctionEnv_cells Sc.kind ?_ fun e1 he1 s1 inc => ?_
  · rintro ⟨n, v⟩ hy
    cases Sc.par n (List.of_mem_zip hy).1 with
    | inl z => exact Or.inl z
    | inr z => exact Or.inr ⟨z, PySem.W.cellsFrom_some _ _ _ (Or.inl z)⟩
  subst he1
  refine ⟨free.keeps inc.toInCall.keep, codeAny_func ?_⟩
  have I0 : Inv (cxOf CX0 P w K mg base N qual scope f cdv callerA out s0 H E) [] (start N vs) H s1 := inv_start Sc room.hd en cnt rv inc
  have lk : Link ⟨K, P, w⟩ H { nx := fun _ G' => fin (q .non) G', rt := fun d G' => fin (q d) G' } { nx := fun _ H' => Q .non H', rt := Q } :=
    ⟨fun σ' H' σd' G' tk hS' hG' ⟨G2, s2, q2⟩ => hw .non H' .non G2 tk (hG'.sub s2) rfl q2,
     fun v H' d G' tk hG' r' ⟨G2, s2, q2⟩ => hw v H' d G2 tk (hG'.sub s2) r' q2,
     fun _ _ _ _ _ _ _ z => z.elim, fun _ _ _ _ _ _ _ z => z.elim⟩
  have ran := (der cdv out s0 H E).run [] s1 (start N vs) H _ I0 ⟨startD N ds, G, _, AbsS.start rr, hG, rd ds G q hS, lk⟩
  refine wpAny_mono ran (fun fl s2 hs => ?_) fun _ _ hs => hs
  match fl, hs with
  | .ret u, ⟨v, σ', H', J, r, qv⟩ => exact ⟨v, H', J.os, J.bare, J.base, J.hok, r, qv⟩
  | .next, ⟨σ', H', J, qv⟩ => exact ⟨.non, H', J.os, J.bare, J.base, J.hok, rfl, qv⟩
  | .brk, ⟨_, _, _, qv⟩ => exact qv.elim
  | .cont, ⟨_, _, _, qv⟩ => exact qv.elim
/-- the call of the law's def, over a heap in which the script alone may be tracked -/
theorem core_C {mb : Str → Option Value} {a : Addr} {y : Str} {sp : Sp} {s1 : Shared} {vs : List Value} {H : Hp}
    (inK : K.In s1.heap) (gl : s1.heap.Ns mainGlobals mg) (bl : s1.heap.Ns builtinsNs mb) (bb : ∀ x : Str, x ≠ "__name__" → mb x = bootBuiltins x) (free : s1.heap.NoLimit) (gens : s1.gens = #[])
    (obj : s1.heap.get? a = some { cls := .type "list", data := .seq vs.toArray })
    (F : ∀ base : Heap, K.In base → base.Ns mainGlobals mg → FnC P w K mg base f fd [y] sp) (bind : ∀ (s : Shared) (u : Value), BindsTo s fd ⟨[u], []⟩ [(y, u)])
    (want : sp [.ref a] H (fun v _ => v = .bl true) fun _ _ _ => False)
    (only : Only H) (hok : HOk P w H s1.heap) (one : ∀ b, H b ≠ none → b = a) (notK : H a ≠ none → K.lookup a = none) :
    codeAny (model P w) callerA (.call (.ref f) ⟨[.ref a], []⟩) (fun r s2 => r = .ok (.ret (.bool true)) ∧ OldK s1.heap s2.heap ∧ s2.os = s1.os ∧ AllBare s2.gens) s1 := by
  have untracked : ∀ {b : Addr} {o : Obj} {es : Array DictEntry} {ep : Nat}, s1.heap.get? b = some o → o.data = .dict es ep → H b = none := by
    intro b o es ep e1 e2
    by_cases hb : H b = none
    · exact hb
    · have eb := one b hb
      rw [eb, obj] at e1
      injection e1 with e1
      rw [← e1] at e2
      cases e2
  have hid : ∀ {b : Addr} {m : Str → Option Value}, s1.heap.Ns b m → (hidT s1.heap H).Ns b m := by
    rintro b m ⟨o, es, ep, e1, e2, rest⟩
    exact ⟨o, es, ep, hidT_get e1 (untracked e1 e2), e2, rest⟩
  have kin : K.In (hidT s1.heap H) := by
    intro b o e
    refine hidT_get (inK b o e) ?_
    by_cases hb : H b = none
    · exact hb
    · have eb := one b hb
      subst eb
      rw [notK hb] at e
      cases e
  obtain ⟨mc, l1, l2⟩ := free
  have md : Mod K mg (hidT s1.heap H) := { kin := kin, glob := hid gl, blt := ⟨mb, hid bl, bb⟩, nolimit := ⟨mc, hid l1, l2⟩ }
  have en : Env0 P w K mg (hidT s1.heap H) callerA [] s1 H :=
    { frames := rfl, mod := md, bs := fun b o e => of_hidT e, bsz := Nat.le_of_eq (hidT_size _ _), funs := trivial, frf := fun b hb => (nomatch hb), hok := hok, bare := .of_eq gens }
  have ran := (F _ kin (hid gl)).go [] s1 H ⟨[.ref a], []⟩ [.ref a] [.ref a] (fun v _ => v = .bl true) (fun _ _ _ => False) en (bind s1 (.ref a)) (.cons rfl .nil) want
  refine codeAny_mono ran fun r s2 h => ?_
  match r, h with
  | .error e, h => exact (show False from h).elim
  | .ok .next, h => exact (show False from h).elim
  | .ok .brk, h => exact (show False from h).elim
  | .ok .cont, h => exact (show False from h).elim
  | .ok (.ret u), ⟨v, H2, os, bare, un, hok2, rv, qv⟩ =>
    subst qv
    have eu : u = Value.bool true := rv
    subst eu
    refine ⟨rfl, OldK.of_keep fun b o e => ?_, os, bare⟩
    rcases only b with z | ⟨ob, xs, z⟩
    · exact un.keep b o e z (fun hb => (nomatch hb)) (fun hb => (nomatch hb))
    · have z2 := un.frzs b ob _ z
      have e1 := (hok b _ z).1
      have e2 := (hok2 b _ z2).1
      rw [e] at e1
      cases e1
      exact e2
/-- no list stands among the written objects -/
def noLists (K : PySem.W.Frag) : Bool := K.all fun p => !(p.2.cls == Value.type "list")
theorem noLists_at (h : noLists K = true) {a : Addr} {o : Obj} (e : K.lookup a = some o) : o.cls ≠ Value.type "list" := by
  intro z
  have m := List.all_eq_true.mp h _ (PySem.W.mem_of_lookupK e)
  have b : (o.cls == Value.type "list") = true := by rw [z]; exact beq_self_eq_true _
  rw [b] at m
  cases m
/-- the law, from the promise of its def -/
theorem walk_C {l : PySem.W.OpenLaw} {n : Nat} {q : Program} {loose : List Str} {XP : (Str → Option Value) → Heap → Prop} {YP : World → Heap → Prop} {d : DefRec} {y : Str}
    (hn : l.most = some n) (hn2 : n ≤ sizeLine) (hdf : d.params.defaults = [])
    (F : ∀ (w : World) (mg : Str → Option Value) (fa : Addr) (h : Heap), YP w h → h.Ns mainGlobals mg → mg d.name = some (.ref fa) →
      ∃ (K : PySem.W.Frag) (fd : FuncData) (sp : Sp), K.In h ∧ noLists K = true ∧ (∀ (s : Shared) (u : Value), BindsTo s fd ⟨[u], []⟩ [(y, u)]) ∧
        (∀ (H : Hp) (a : Addr) (ns : List Int), Rd H a (.lst (ns.map V.int)) → sp [.ref a] H (fun v _ => v = .bl true) fun _ _ _ => False) ∧
        ∀ base : Heap, K.In base → base.Ns mainGlobals mg → FnC l.prog w K mg base fa fd [y] sp) :
    PySem.W.WalkO q loose XP YP l.row.toRowW d [] (fun f vs => PySem.call f vs) := by
  refine Att.attach_call hn hdf fun w s₀ s1 mg mb fa o pm cd doc a vs ns G Y ho hd hcd hmg obj hints hlen gens => ?_
  obtain ⟨K, fd, sp, inK, nl, bind, want, FC⟩ := F w mg fa _ Y G.T.g hmg
  have rv := vals_ints hints
  have hsmall : ns.length ≤ sizeLine := Nat.le_trans hlen hn2
  have hk : K.lookup a = none := by
    cases e : K.lookup a with
    | none => rfl
    | some o =>
      have e2 := inK a o e
      rw [obj] at e2
      injection e2 with e2
      exact (noLists_at nl e (by rw [← e2])).elim
  let Hs : Hp := fun b => if b = a then some (.frz { cls := .type "list", data := .seq vs.toArray } (.lst (ns.map V.int))) else none
  have at_ : Hs a = some (.frz { cls := .type "list", data := .seq vs.toArray } (.lst (ns.map V.int))) := if_pos rfl
  have off : ∀ {b}, b ≠ a → Hs b = none := fun h => if_neg h
  refine core_C (H := Hs) inK G.T.g G.T.b G.T.builtins G.T.nolimit gens obj FC bind (want _ a ns (.inr ⟨_, at_⟩)) (fun b => ?_) (fun b u z => ?_) (fun b z => ?_) fun _ => hk
  · by_cases hb : b = a
    · rw [hb]
      exact .inr ⟨_, _, at_⟩
    · exact .inl (off hb)
  · by_cases hb : b = a
    · subst hb
      rw [at_] at z
      cases z
      exact ⟨obj, by rw [List.length_map]; exact hsmall, vs, _, rv, obj⟩
    · rw [off hb] at z
      cases z
  · exact Decidable.byContradiction fun hb => z (off hb)
end
end DL
/-! R1: where the defs of k81's text stand, the built-in names. -/
namespace DL.K81
open PySem PySem.Spec PyProof.Rows L2 DL
def top (i : Nat) : Stmt := PySem.Challenge.pw_roundties_k81_searched_values.main.body.getD i (.Pass ⟨0, 0, 0, 0⟩)
abbrev FnP (K : PySem.W.Frag) (x : Str) (st : Stmt) (f : Addr) (fd : FuncData) : Prop := FunD K x x (defArgs st) (defBody st) (defScope st) [] [] f fd
/-- a def with one default, the integer 0 -/
abbrev FnP1 (K : PySem.W.Frag) (x : Str) (st : Stmt) (f : Addr) (fd : FuncData) : Prop := FunD K x x (defArgs st) (defBody st) (defScope st) [V.int 0] [] f fd
/-- the built-in names that the text reads are no names of the module -/
structure Gs (mg : Str → Option Value) : Prop where
  len : mg "len" = none
  list : mg "list" = none
  tuple : mg "tuple" = none
  int : mg "int" = none
  max : mg "max" = none
  min : mg "min" = none
  range : mg "range" = none
  enumerate : mg "enumerate" = none
  isinstance : mg "isinstance" = none
  sorted : mg "sorted" = none
  set : mg "set" = none
  sum : mg "sum" = none
  dict : mg "dict" = none
  zip : mg "zip" = none
  repr : mg "repr" = none
  bool : mg "bool" = none
  str : mg "str" = none
theorem room_v {k : Nat} {A : Around} (r : Room k A) : A.units + 65 < cLine := by
  have := r.un
  omega
end DL.K81
/-! R3: readings and derivations of defs of k81's text; printed by gen.py. -/
namespace DL.K81
open PySem PySem.Spec PyProof.Rows L2 DL
section
variable {P : Program} {w : World} {K : PySem.W.Frag} {mg : Str → Option Value} {base : Heap} {f : Addr} {fd : FuncData}
abbrev NLdeck : List Str := ["script", "seed", "cell"]
theorem scLdeck : FnScope NLdeck ["script"] (defScope (top 16)) := ⟨rfl, rfl, rfl, by decide +kernel, rfl, by decide +kernel, by decide +kernel⟩
def tLdeck : TSd := (dSeq (dAsg (dC (.int 20132081)) (dName 1)) (dSeq (dFor (dIt (dSl (dVar 0) dNoPart (dPart (dC (.int 63))))) (dName 2) (dAsg (dOp rModI (dCB rInt (dCons (dOp rAdd (dOp rAdd (dOp rMul (dVar 1) (dC (.int 48271))) (dOp rModI (dCB rInt (dCons (dVar 2) dNil)) (dC (.int 2147483629)))) (dC (.int 11))) dNil)) (dC (.int 2147483587))) (dName 1))) (dRet (dDisp [((dC (.str "cells")), (dRev (dCB rList (dCons (dSl (dVar 0) dNoPart (dPart (dC (.int 63)))) dNil)))), ((dC (.str "mixed")), (dVar 1)), ((dC (.str "draws")), (dC (.int 0)))]))))
theorem okLdeck (gs : Gs mg) (F : FnP K "_law_deck" (top 16) f fd) {S : SpD} (len : ∀ ds G q, S ds G q → ds.length = 1)
    (rd : ∀ ds G q, S ds G q → tLdeck { nx := fun _ G' => fin (q .non) G', rt := fun d G' => fin (q d) G' } (startD NLdeck ds) G) : FnOk P w K mg base CX0 1 f fd ["script"] (liftSp ⟨K, P, w⟩ S) := by
  exact okD F scLdeck len (tLdeck) (fun cdv A outer s H E hr => PSs.nox (qss_cons (qs_set (i := 1) scLdeck.nd rfl (by first | exact Or.inl rfl | exact Or.inr rfl) qe_int) (qss_cons (qs_for .never rfl (qi_it (qe_slice (qv 0) qo_none (qo_some qe_int))) (qg_name (i := 2) scLdeck.nd rfl (by first | exact Or.inl rfl | exact Or.inr rfl)) (qss_one (qs_set (i := 1) scLdeck.nd rfl (by first | exact Or.inl rfl | exact Or.inr rfl) (qe_op od_mod (qe_callTy cd_int rfl gs.int rfl (qa_cons (qe_op od_add (qe_op od_add (qe_op od_mul (qv 1) qe_int) (qe_op od_mod (qe_callTy cd_int rfl gs.int rfl (qa_cons (qv 2) qa_nil)) qe_int)) qe_int) qa_nil)) qe_int)))) (qss_one (qs_ret (qe_disp (QPs.cons qe_str (qe_rev (qe_callTy (cd_list rfl) rfl gs.list rfl (qa_cons (qe_slice (qv 0) qo_none (qo_some qe_int)) qa_nil))) (QPs.cons qe_str (qv 1) (QPs.cons qe_str qe_int QPs.nil))))))))) rd
abbrev NLdraw : List Str := ["deck", "many", "number", "cell"]
theorem scLdraw : FnScope NLdraw ["deck", "many"] (defScope (top 17)) := ⟨rfl, rfl, rfl, by decide +kernel, rfl, by decide +kernel, by decide +kernel⟩
def tLdraw : TSd := (dSeq (dAsg (dOp rAdd (dOp rIx (dVar 0) (dC (.str "draws"))) (dC (.int 1))) (dSub (dVar 0) (dC (.str "draws")))) (dSeq (dAsg (dOp rAdd (dOp rIx (dVar 0) (dC (.str "mixed"))) (dOp rMul (dC (.int 62089)) (dOp rIx (dVar 0) (dC (.str "draws"))))) (dName 2)) (dSeq (dIf (dTest (dOp (rEqv true) (dOp rIx (dVar 0) (dC (.str "cells"))) (dLst dNil))) (dSeq (dAsg (dBM "list" rPopD (dOp rIx (dVar 0) (dC (.str "cells"))) dNil) (dName 3)) (dSeq (dIf (dTest (dOp rGe (dVar 3) (dOp rPowI (dC (.int 10)) (dC (.int 18))))) (dSeq (dDrop (dBM "list" rAppendD (dOp rIx (dVar 0) (dC (.str "cells"))) (dCons (dOp rDivW (dVar 3) (dCB rMax (dCons (dC (.int 2)) (dCons (dVar 1) dNil)))) dNil))) (dRet (dOp rModI (dCB rInt (dCons (dVar 3) dNil)) (dVar 1)))) dNext) (dAsg (dOp rAdd (dVar 2) (dOp rModI (dCB rInt (dCons (dVar 3) dNil)) (dC (.int 2147483629)))) (dName 2)))) dNext) (dSeq (dAsg (dOp rModI (dCB rInt (dCons (dOp rAdd (dOp rMul (dVar 2) (dC (.int 40014))) (dC (.int 91))) dNil)) (dC (.int 2147483563))) (dName 2)) (dSeq (dAsg (dOp rModI (dCB rInt (dCons (dOp rAdd (dOp rAdd (dOp rMul (dVar 2) (dVar 2)) (dOp rMul (dC (.int 53668)) (dOp rIx (dVar 0) (dC (.str "draws"))))) (dC (.int 17))) dNil)) (dC (.int 2147483399))) (dName 2)) (dSeq (dAsg (dOp rModI (dCB rInt (dCons (dOp rMul (dVar 2) (dC (.int 40692))) dNil)) (dC (.int 2147483647))) (dName 2)) (dRet (dOp rModI (dCB rInt (dCons (dOp rDivW (dVar 2) (dC (.int 64))) dNil)) (dVar 1)))))))))
theorem okLdraw (gs : Gs mg) (F : FnP K "_law_draw" (top 17) f fd) {S : SpD} (len : ∀ ds G q, S ds G q → ds.length = 2)
    (rd : ∀ ds G q, S ds G q → tLdraw { nx := fun _ G' => fin (q .non) G', rt := fun d G' => fin (q d) G' } (startD NLdraw ds) G) : FnOk P w K mg base CX0 1 f fd ["deck", "many"] (liftSp ⟨K, P, w⟩ S) := by
  exact okD F scLdraw len (tLdraw) (fun cdv A outer s H E hr => PSs.nox (qss_cons (qs_asg (qe_op od_add (qe_ix (room_u hr) (qv 0) qe_str (fun _ _ => rfl)) qe_int) (qg_sub (room_u hr) (qv 0) qe_str (fun _ => rfl))) (qss_cons (qs_set (i := 2) scLdraw.nd rfl (by first | exact Or.inl rfl | exact Or.inr rfl) (qe_op od_add (qe_ix (room_u hr) (qv 0) qe_str (fun _ _ => rfl)) (qe_op od_mul qe_int (qe_ix (room_u hr) (qv 0) qe_str (fun _ _ => rfl))))) (qss_cons (qs_if (qt_cmp (od_ne (room_u hr)) (qe_ix (room_u hr) (qv 0) qe_str (fun _ _ => rfl)) (qe_lst qa_nil) rfl) (qss_cons (qs_set (i := 3) scLdraw.nd rfl (by first | exact Or.inl rfl | exact Or.inr rfl) (qe_bm0 PySem.F.plainAttrs_list PySem.F.slot_list_pop rfl mtd_pop (qe_ix (room_u hr) (qv 0) qe_str (fun _ _ => rfl)))) (qss_cons (qs_if (qt_cmp od_ge (qv 3) (qe_op od_pow qe_int qe_int) rfl) (qss_cons (qs_expr (qe_bm PySem.F.plainAttrs_list PySem.F.slot_list_append rfl mtd_append (qe_ix (room_u hr) (qv 0) qe_str (fun _ _ => rfl)) (qa_cons (qe_op od_fdivW (qv 3) (qe_callB (cd_max rfl) rfl gs.max rfl (qa_cons qe_int (qa_cons (qv 1) qa_nil)))) qa_nil))) (qss_one (qs_ret (qe_op od_mod (qe_callTy cd_int rfl gs.int rfl (qa_cons (qv 3) qa_nil)) (qv 1))))) qss_nil) (qss_one (qs_set (i := 2) scLdraw.nd rfl (by first | exact Or.inl rfl | exact Or.inr rfl) (qe_op od_add (qv 2) (qe_op od_mod (qe_callTy cd_int rfl gs.int rfl (qa_cons (qv 3) qa_nil)) qe_int)))))) qss_nil) (qss_cons (qs_set (i := 2) scLdraw.nd rfl (by first | exact Or.inl rfl | exact Or.inr rfl) (qe_op od_mod (qe_callTy cd_int rfl gs.int rfl (qa_cons (qe_op od_add (qe_op od_mul (qv 2) qe_int) qe_int) qa_nil)) qe_int)) (qss_cons (qs_set (i := 2) scLdraw.nd rfl (by first | exact Or.inl rfl | exact Or.inr rfl) (qe_op od_mod (qe_callTy cd_int rfl gs.int rfl (qa_cons (qe_op od_add (qe_op od_add (qe_op od_mul (qv 2) (qv 2)) (qe_op od_mul qe_int (qe_ix (room_u hr) (qv 0) qe_str (fun _ _ => rfl)))) qe_int) qa_nil)) qe_int)) (qss_cons (qs_set (i := 2) scLdraw.nd rfl (by first | exact Or.inl rfl | exact Or.inr rfl) (qe_op od_mod (qe_callTy cd_int rfl gs.int rfl (qa_cons (qe_op od_mul (qv 2) qe_int) qa_nil)) qe_int)) (qss_one (qs_ret (qe_op od_mod (qe_callTy cd_int rfl gs.int rfl (qa_cons (qe_op od_fdivW (qv 2) qe_int) qa_nil)) (qv 1))))))))))) rd
abbrev NLpick : List Str := ["deck", "some"]
theorem scLpick : FnScope NLpick ["deck", "some"] (defScope (top 18)) := ⟨rfl, rfl, rfl, by decide +kernel, rfl, by decide +kernel, by decide +kernel⟩
def tLpick (SLdraw : SpD) : TSd := (dRet (dOp rIx (dVar 1) (dCall SLdraw [] (dCons (dVar 0) (dCons (dCB rLen (dCons (dVar 1) dNil)) dNil)))))
theorem okLpick (gs : Gs mg) (F : FnP K "_law_pick" (top 18) f fd) {aLdraw : Addr} {dLdraw : FuncData} {SLdraw : SpD} (FLdraw : FnP K "_law_draw" (top 17) aLdraw dLdraw) (GLdraw : FnOk P w K mg base CX0 1 aLdraw dLdraw ["deck", "many"] (liftSp ⟨K, P, w⟩ SLdraw)) (gLdraw : mg "_law_draw" = some (.ref aLdraw)) {S : SpD} (len : ∀ ds G q, S ds G q → ds.length = 2)
    (rd : ∀ ds G q, S ds G q → tLpick SLdraw { nx := fun _ G' => fin (q .non) G', rt := fun d G' => fin (q d) G' } (startD NLpick ds) G) : FnOk P w K mg base CX0 2 f fd ["deck", "some"] (liftSp ⟨K, P, w⟩ S) := by
  have bLdraw : Binds K dLdraw ["deck", "many"] [] := FLdraw.bindsN fun _ _ _ _ _ _ us hl => match us, hl with | [_, _], _ => rfl
  exact okD F scLpick len (tLpick SLdraw) (fun cdv A outer s H E hr => PSs.nox (qss_one (qs_ret (qe_ix (room_u hr) (qv 1) (qe_call GLdraw hr rfl gLdraw FLdraw.kp bLdraw .nil (fun _ => rfl) (qa_cons (qv 0) (qa_cons (qe_callB cd_len rfl gs.len rfl (qa_cons (qv 1) qa_nil)) qa_nil))) (fun _ _ => rfl))))) rd
abbrev NLsome : List Str := ["deck", "row", "many", "left", "turn"]
theorem scLsome : FnScope NLsome ["deck", "row", "many"] (defScope (top 19)) := ⟨rfl, rfl, rfl, by decide +kernel, rfl, by decide +kernel, by decide +kernel⟩
def tLsome (SLdraw : SpD) : TSd := (dSeq (dAsg (dCB rList (dCons (dVar 1) dNil)) (dName 3)) (dRet (dLc (dRange1 (dCons (dCB rMin (dCons (dVar 2) (dCons (dCB rLen (dCons (dVar 3) dNil)) dNil))) dNil)) (.nm 4) dYes (dBM "list" rPopAtD (dVar 3) (dCons (dCall SLdraw [] (dCons (dVar 0) (dCons (dCB rLen (dCons (dVar 3) dNil)) dNil))) dNil)) [4])))
theorem okLsome (gs : Gs mg) (F : FnP K "_law_some" (top 19) f fd) {aLdraw : Addr} {dLdraw : FuncData} {SLdraw : SpD} (FLdraw : FnP K "_law_draw" (top 17) aLdraw dLdraw) (GLdraw : FnOk P w K mg base CX0 1 aLdraw dLdraw ["deck", "many"] (liftSp ⟨K, P, w⟩ SLdraw)) (gLdraw : mg "_law_draw" = some (.ref aLdraw)) {S : SpD} (len : ∀ ds G q, S ds G q → ds.length = 3)
    (rd : ∀ ds G q, S ds G q → tLsome SLdraw { nx := fun _ G' => fin (q .non) G', rt := fun d G' => fin (q d) G' } (startD NLsome ds) G) : FnOk P w K mg base CX0 2 f fd ["deck", "row", "many"] (liftSp ⟨K, P, w⟩ S) := by
  have bLdraw : Binds K dLdraw ["deck", "many"] [] := FLdraw.bindsN fun _ _ _ _ _ _ us hl => match us, hl with | [_, _], _ => rfl
  exact okD F scLsome len (tLsome SLdraw) (fun cdv A outer s H E hr => PSs.nox (qss_cons (qs_set (i := 3) scLsome.nd rfl (by first | exact Or.inl rfl | exact Or.inr rfl) (qe_callTy (cd_list rfl) rfl gs.list rfl (qa_cons (qv 1) qa_nil))) (qss_one (qs_ret (qe_lc (own := [("turn", 4)]) rfl scLsome.nd (qi_range1 rfl gs.range (qa_cons (qe_callB (cd_min rfl) rfl gs.min rfl (qa_cons (qv 2) (qa_cons (qe_callB cd_len rfl gs.len rfl (qa_cons (qv 3) qa_nil)) qa_nil))) qa_nil)) (blkOk_by (N := NLsome) (sc := defScope (top 19)) (by decide +kernel)) (by decide) (fun _ _ _ _ _ => (pg_name (i := 4) scLsome.nd rfl (by first | exact Or.inl rfl | exact Or.inr rfl))) (fun _ _ _ _ _ => qts_nil) (fun _ _ _ _ _ => (qe_bm PySem.F.plainAttrs_list PySem.F.slot_list_pop rfl mtd_popAt (qv 3) (qa_cons (qe_call GLdraw hr rfl gLdraw FLdraw.kp bLdraw .nil (fun _ => rfl) (qa_cons (qv 0) (qa_cons (qe_callB cd_len rfl gs.len rfl (qa_cons (qv 3) qa_nil)) qa_nil))) qa_nil)))))))) rd
abbrev NLsame : List Str := ["told", "due", "todo", "one", "other"]
theorem scLsame : FnScope NLsame ["told", "due"] (defScope (top 20)) := ⟨rfl, rfl, rfl, by decide +kernel, rfl, by decide +kernel, by decide +kernel⟩
def tLsame : TSd := (dSeq (dAsg (dLst (dCons (dTup (dCons (dVar 0) (dCons (dVar 1) dNil))) dNil)) (dName 2)) (dSeq (dWhile (dTest (dOp rNeNil (dVar 2) (dLst dNil))) (dSeq (dAsg (dBM "list" rPopD (dVar 2) dNil) (dTupG 2 (dGcons (dName 3) (dGcons (dName 4) dGnil)))) (dIf (dOr (dTest (dIsI "tuple" (dVar 4))) (dTest (dIsI "list" (dVar 4)))) (dSeq (dIf (dOr (dTest (dOp (rEqv true) (dIsI "tuple" (dVar 3)) (dIsI "tuple" (dVar 4)))) (dTest (dOp (rEqv true) (dIsI "list" (dVar 3)) (dIsI "list" (dVar 4))))) (dRet (dC (.bl false))) dNext) (dSeq (dIf (dTest (dOp (rEqv true) (dCB rLen (dCons (dVar 3) dNil)) (dCB rLen (dCons (dVar 4) dNil)))) (dRet (dC (.bl false))) dNext) (dDrop (dBM "list" rExtendD (dVar 2) (dCons (dZipL (dCons (dVar 3) (dCons (dVar 4) dNil))) dNil))))) (dIf (dTest (dIsI "dict" (dVar 4))) (dIf (dOr (dNot (dTest (dIsI "dict" (dVar 3)))) (dTest (dOp (rEqv true) (dVar 3) (dVar 4)))) (dRet (dC (.bl false))) dNext) (dIf (dTest (dOp (rIsN false) (dVar 4) (dC .non))) (dIf (dTest (dOp (rIsN true) (dVar 3) (dC .non))) (dRet (dC (.bl false))) dNext) (dIf (dTest (dIsI "str" (dVar 4))) (dIf (dOr (dNot (dTest (dIsI "str" (dVar 3)))) (dTest (dOp (rEqv true) (dVar 3) (dVar 4)))) (dRet (dC (.bl false))) dNext) (dIf (dOr (dNot (dTest (dIsI "int" (dVar 3)))) (dOr (dTest (dOp (rEqv true) (dIsI "bool" (dVar 3)) (dIsI "bool" (dVar 4)))) (dTest (dOp (rEqv true) (dVar 3) (dVar 4))))) (dRet (dC (.bl false))) dNext))))))) (dRet (dC (.bl true)))))
theorem okLsame (gs : Gs mg) (F : FnP K "_law_same" (top 20) f fd) {S : SpD} (len : ∀ ds G q, S ds G q → ds.length = 2)
    (rd : ∀ ds G q, S ds G q → tLsame { nx := fun _ G' => fin (q .non) G', rt := fun d G' => fin (q d) G' } (startD NLsame ds) G) : FnOk P w K mg base CX0 1 f fd ["told", "due"] (liftSp ⟨K, P, w⟩ S) := by
  exact okD F scLsame len (tLsame) (fun cdv A outer s H E hr => PSs.nox (qss_cons (qs_set (i := 2) scLsame.nd rfl (by first | exact Or.inl rfl | exact Or.inr rfl) (qe_lst (qa_cons (qe_tup (qa_cons (qv 0) (qa_cons (qv 1) qa_nil))) qa_nil))) (qss_cons (qs_while .never (qt_cmp (od_neNil (room_u hr)) (qv 2) (qe_lst qa_nil) rfl) (qss_cons (qs_asg (qe_bm0 PySem.F.plainAttrs_list PySem.F.slot_list_pop rfl mtd_pop (qv 2)) (qg_tup rfl (qgs_cons (qg_name (i := 3) scLsame.nd rfl (by first | exact Or.inl rfl | exact Or.inr rfl)) (qgs_cons (qg_name (i := 4) scLsame.nd rfl (by first | exact Or.inl rfl | exact Or.inr rfl)) qgs_nil)))) (qss_one (qs_if (PW.pt (qw_or (qt_val (qe_isi (T := "tuple") (by simp) rfl gs.isinstance rfl gs.tuple rfl (qv 4))) (qw_or1 (qt_val (qe_isi (T := "list") (by simp) rfl gs.isinstance rfl gs.list rfl (qv 4)))))) (qss_cons (qs_if (PW.pt (qw_or (qt_cmp (od_ne (room_u hr)) (qe_isi (T := "tuple") (by simp) rfl gs.isinstance rfl gs.tuple rfl (qv 3)) (qe_isi (T := "tuple") (by simp) rfl gs.isinstance rfl gs.tuple rfl (qv 4)) rfl) (qw_or1 (qt_cmp (od_ne (room_u hr)) (qe_isi (T := "list") (by simp) rfl gs.isinstance rfl gs.list rfl (qv 3)) (qe_isi (T := "list") (by simp) rfl gs.isinstance rfl gs.list rfl (qv 4)) rfl)))) (qss_one (qs_ret qe_bl)) qss_nil) (qss_cons (qs_if (qt_cmp (od_ne (room_u hr)) (qe_callB cd_len rfl gs.len rfl (qa_cons (qv 3) qa_nil)) (qe_callB cd_len rfl gs.len rfl (qa_cons (qv 4) qa_nil)) rfl) (qss_one (qs_ret qe_bl)) qss_nil) (qss_one (qs_expr (qe_bm PySem.F.plainAttrs_list PySem.F.slot_list_extend rfl mtd_extend (qv 2) (qa_cons (qe_listZip rfl rfl gs.list rfl gs.zip (qa_cons (qv 3) (qa_cons (qv 4) qa_nil))) qa_nil)))))) (qss_one (qs_if (qt_val (qe_isi (T := "dict") (by simp) rfl gs.isinstance rfl gs.dict rfl (qv 4))) (qss_one (qs_if (PW.pt (qw_or (qt_not (qt_val (qe_isi (T := "dict") (by simp) rfl gs.isinstance rfl gs.dict rfl (qv 3)))) (qw_or1 (qt_cmp (od_ne (room_u hr)) (qv 3) (qv 4) rfl)))) (qss_one (qs_ret qe_bl)) qss_nil)) (qss_one (qs_if (qt_cmp od_isN (qv 4) qe_non rfl) (qss_one (qs_if (qt_cmp od_notN (qv 3) qe_non rfl) (qss_one (qs_ret qe_bl)) qss_nil)) (qss_one (qs_if (qt_val (qe_isi (T := "str") (by simp) rfl gs.isinstance rfl gs.str rfl (qv 4))) (qss_one (qs_if (PW.pt (qw_or (qt_not (qt_val (qe_isi (T := "str") (by simp) rfl gs.isinstance rfl gs.str rfl (qv 3)))) (qw_or1 (qt_cmp (od_ne (room_u hr)) (qv 3) (qv 4) rfl)))) (qss_one (qs_ret qe_bl)) qss_nil)) (qss_one (qs_if (PW.pt (qw_or (qt_not (qt_val (qe_isi (T := "int") (by simp) rfl gs.isinstance rfl gs.int rfl (qv 3)))) (qw_or (qt_cmp (od_ne (room_u hr)) (qe_isi (T := "bool") (by simp) rfl gs.isinstance rfl gs.bool rfl (qv 3)) (qe_isi (T := "bool") (by simp) rfl gs.isinstance rfl gs.bool rfl (qv 4)) rfl) (qw_or1 (qt_cmp (od_ne (room_u hr)) (qv 3) (qv 4) rfl))))) (qss_one (qs_ret qe_bl)) qss_nil)))))))))))) (qss_one (qs_ret qe_bl))))) rd
abbrev NLsignature : List Str := ["deck", "most", "names", "name"]
theorem scLsignature : FnScope NLsignature ["deck", "most"] (defScope (top 21)) := ⟨rfl, rfl, rfl, by decide +kernel, rfl, by decide +kernel, by decide +kernel⟩
def tLsignature (SLdraw : SpD) (SLsome : SpD) (SLpick : SpD) : TSd := (dSeq (dAsg (dCall SLsome [] (dCons (dVar 0) (dCons (dLst (dCons (dC (.str "cons")) (dCons (dC (.str "end")) (dCons (dC (.str "one")) (dCons (dC (.str "two")) (dCons (dC (.str "a")) (dCons (dC (.str "b")) (dCons (dC (.str "leaf")) (dCons (dC (.str "pair")) (dCons (dC (.str "voids")) (dCons (dC (.str "x")) (dCons (dC (.str "zzzzzzz")) (dCons (dC (.str "tag")) dNil))))))))))))) (dCons (dOp rAdd (dC (.int 1)) (dCall SLdraw [] (dCons (dVar 0) (dCons (dVar 1) dNil)))) dNil)))) (dName 2)) (dRet (dCB rTuple (dCons (dCB rSortedD (dCons (dLc (dIt (dVar 2)) (.nm 3) dYes (dTup (dCons (dVar 3) (dCons (dCall SLpick [] (dCons (dVar 0) (dCons (dLst (dCons (dC (.int 0)) (dCons (dC (.int 0)) (dCons (dC (.int 1)) (dCons (dC (.int 2)) (dCons (dC (.int 2)) (dCons (dC (.int 3)) dNil))))))) dNil))) dNil))) [3]) dNil)) dNil))))
theorem okLsignature (gs : Gs mg) (F : FnP K "_law_signature" (top 21) f fd) {aLdraw : Addr} {dLdraw : FuncData} {SLdraw : SpD} (FLdraw : FnP K "_law_draw" (top 17) aLdraw dLdraw) (GLdraw : FnOk P w K mg base CX0 1 aLdraw dLdraw ["deck", "many"] (liftSp ⟨K, P, w⟩ SLdraw)) (gLdraw : mg "_law_draw" = some (.ref aLdraw)) {aLsome : Addr} {dLsome : FuncData} {SLsome : SpD} (FLsome : FnP K "_law_some" (top 19) aLsome dLsome) (GLsome : FnOk P w K mg base CX0 2 aLsome dLsome ["deck", "row", "many"] (liftSp ⟨K, P, w⟩ SLsome)) (gLsome : mg "_law_some" = some (.ref aLsome)) {aLpick : Addr} {dLpick : FuncData} {SLpick : SpD} (FLpick : FnP K "_law_pick" (top 18) aLpick dLpick) (GLpick : FnOk P w K mg base CX0 2 aLpick dLpick ["deck", "some"] (liftSp ⟨K, P, w⟩ SLpick)) (gLpick : mg "_law_pick" = some (.ref aLpick)) {S : SpD} (len : ∀ ds G q, S ds G q → ds.length = 2)
    (rd : ∀ ds G q, S ds G q → tLsignature SLdraw SLsome SLpick { nx := fun _ G' => fin (q .non) G', rt := fun d G' => fin (q d) G' } (startD NLsignature ds) G) : FnOk P w K mg base CX0 3 f fd ["deck", "most"] (liftSp ⟨K, P, w⟩ S) := by
  have bLdraw : Binds K dLdraw ["deck", "many"] [] := FLdraw.bindsN fun _ _ _ _ _ _ us hl => match us, hl with | [_, _], _ => rfl
  have bLsome : Binds K dLsome ["deck", "row", "many"] [] := FLsome.bindsN fun _ _ _ _ _ _ us hl => match us, hl with | [_, _, _], _ => rfl
  have bLpick : Binds K dLpick ["deck", "some"] [] := FLpick.bindsN fun _ _ _ _ _ _ us hl => match us, hl with | [_, _], _ => rfl
  exact okD F scLsignature len (tLsignature SLdraw SLsome SLpick) (fun cdv A outer s H E hr => PSs.nox (qss_cons (qs_set (i := 2) scLsignature.nd rfl (by first | exact Or.inl rfl | exact Or.inr rfl) (qe_call GLsome hr rfl gLsome FLsome.kp bLsome .nil (fun _ => rfl) (qa_cons (qv 0) (qa_cons (qe_lst (qa_cons qe_str (qa_cons qe_str (qa_cons qe_str (qa_cons qe_str (qa_cons qe_str (qa_cons qe_str (qa_cons qe_str (qa_cons qe_str (qa_cons qe_str (qa_cons qe_str (qa_cons qe_str (qa_cons qe_str qa_nil))))))))))))) (qa_cons (qe_op od_add qe_int (qe_call GLdraw (hr.mono (by decide)) rfl gLdraw FLdraw.kp bLdraw .nil (fun _ => rfl) (qa_cons (qv 0) (qa_cons (qv 1) qa_nil)))) qa_nil))))) (qss_one (qs_ret (qe_callTy cd_tuple rfl gs.tuple rfl (qa_cons (qe_callB (cd_sorted (room_u hr)) rfl gs.sorted rfl (qa_cons (qe_lc (own := [("name", 3)]) rfl scLsignature.nd (qi_it (qv 2)) (blkOk_by (N := NLsignature) (sc := defScope (top 21)) (by decide +kernel)) (by decide) (fun _ _ _ _ _ => (pg_name (i := 3) scLsignature.nd rfl (by first | exact Or.inl rfl | exact Or.inr rfl))) (fun _ _ _ _ _ => qts_nil) (fun _ _ _ _ _ => (qe_tup (qa_cons (qv 3) (qa_cons (qe_call GLpick hr rfl gLpick FLpick.kp bLpick .nil (fun _ => rfl) (qa_cons (qv 0) (qa_cons (qe_lst (qa_cons qe_int (qa_cons qe_int (qa_cons qe_int (qa_cons qe_int (qa_cons qe_int (qa_cons qe_int qa_nil))))))) qa_nil))) qa_nil))))) qa_nil)) qa_nil)))))) rd
abbrev NLtags : List Str := ["sign"]
theorem scLtags : FnScope NLtags ["sign"] (defScope (top 22)) := ⟨rfl, rfl, rfl, by decide +kernel, rfl, by decide +kernel, by decide +kernel⟩
def tLtags : TSd := (dRet (dCB rSortedD (dCons (dOp rAdd (dCB rList (dCons (dVar 0) dNil)) (dLst (dCons (dTup (dCons (dC (.str "void")) (dCons (dC (.int 0)) dNil))) dNil))) dNil)))
theorem okLtags (gs : Gs mg) (F : FnP K "_law_tags" (top 22) f fd) {S : SpD} (len : ∀ ds G q, S ds G q → ds.length = 1)
    (rd : ∀ ds G q, S ds G q → tLtags { nx := fun _ G' => fin (q .non) G', rt := fun d G' => fin (q d) G' } (startD NLtags ds) G) : FnOk P w K mg base CX0 1 f fd ["sign"] (liftSp ⟨K, P, w⟩ S) := by
  exact okD F scLtags len (tLtags) (fun cdv A outer s H E hr => PSs.nox (qss_one (qs_ret (qe_callB (cd_sorted (room_u hr)) rfl gs.sorted rfl (qa_cons (qe_op od_add (qe_callTy (cd_list rfl) rfl gs.list rfl (qa_cons (qv 0) qa_nil)) (qe_lst (qa_cons (qe_tup (qa_cons qe_str (qa_cons qe_int qa_nil))) qa_nil))) qa_nil))))) rd
abbrev NLdrawnsheet : List Str := ["deck", "sign", "most", "many", "tags", "it", "rows", "row", "tag", "count", "field"]
theorem scLdrawnsheet : FnScope NLdrawnsheet ["deck", "sign", "most"] (defScope (top 23)) := ⟨rfl, rfl, rfl, by decide +kernel, rfl, by decide +kernel, by decide +kernel⟩
def tLdrawnsheet (SLdraw : SpD) (SLpick : SpD) (SLtags : SpD) : TSd := (dSeq (dAsg (dTup (dCons (dOp rAdd (dC (.int 1)) (dCall SLdraw [] (dCons (dVar 0) (dCons (dVar 2) dNil)))) (dCons (dCall SLtags [] (dCons (dVar 1) dNil)) dNil))) (dTupG 2 (dGcons (dName 3) (dGcons (dName 4) dGnil)))) (dSeq (dIf (dTest (dOp rGt (dCall SLdraw [] (dCons (dVar 0) (dCons (dC (.int 3)) dNil))) (dC (.int 0)))) (dAsg (dOp rAdd (dVar 4) (dOp rMul (dLc (dIt (dVar 4)) (.nm 5) (dTest (dOp rGt (dOp rIx (dVar 5) (dC (.int 1))) (dC (.int 0)))) (dVar 5) [5]) (dC (.int 2)))) (dName 4)) dNext) (dSeq (dAsg (dLst dNil) (dName 6)) (dSeq (dFor (dRange1 (dCons (dVar 3) dNil)) (dName 7) (dSeq (dAsg (dCall SLpick [] (dCons (dVar 0) (dCons (dVar 4) dNil))) (dTupG 2 (dGcons (dName 8) (dGcons (dName 9) dGnil)))) (dDrop (dBM "list" rAppendD (dVar 6) (dCons (dTup (dCons (dVar 8) (dCons (dCB rTuple (dCons (dLc (dRange1 (dCons (dVar 9) dNil)) (.nm 10) dYes (dCall SLdraw [] (dCons (dVar 0) (dCons (dVar 3) dNil))) [10]) dNil)) dNil))) dNil))))) (dRet (dCB rTuple (dCons (dVar 6) dNil)))))))
theorem okLdrawnsheet (gs : Gs mg) (F : FnP K "_law_drawn_sheet" (top 23) f fd) {aLdraw : Addr} {dLdraw : FuncData} {SLdraw : SpD} (FLdraw : FnP K "_law_draw" (top 17) aLdraw dLdraw) (GLdraw : FnOk P w K mg base CX0 1 aLdraw dLdraw ["deck", "many"] (liftSp ⟨K, P, w⟩ SLdraw)) (gLdraw : mg "_law_draw" = some (.ref aLdraw)) {aLpick : Addr} {dLpick : FuncData} {SLpick : SpD} (FLpick : FnP K "_law_pick" (top 18) aLpick dLpick) (GLpick : FnOk P w K mg base CX0 2 aLpick dLpick ["deck", "some"] (liftSp ⟨K, P, w⟩ SLpick)) (gLpick : mg "_law_pick" = some (.ref aLpick)) {aLtags : Addr} {dLtags : FuncData} {SLtags : SpD} (FLtags : FnP K "_law_tags" (top 22) aLtags dLtags) (GLtags : FnOk P w K mg base CX0 1 aLtags dLtags ["sign"] (liftSp ⟨K, P, w⟩ SLtags)) (gLtags : mg "_law_tags" = some (.ref aLtags)) {S : SpD} (len : ∀ ds G q, S ds G q → ds.length = 3)
    (rd : ∀ ds G q, S ds G q → tLdrawnsheet SLdraw SLpick SLtags { nx := fun _ G' => fin (q .non) G', rt := fun d G' => fin (q d) G' } (startD NLdrawnsheet ds) G) : FnOk P w K mg base CX0 3 f fd ["deck", "sign", "most"] (liftSp ⟨K, P, w⟩ S) := by
  have bLdraw : Binds K dLdraw ["deck", "many"] [] := FLdraw.bindsN fun _ _ _ _ _ _ us hl => match us, hl with | [_, _], _ => rfl
  have bLpick : Binds K dLpick ["deck", "some"] [] := FLpick.bindsN fun _ _ _ _ _ _ us hl => match us, hl with | [_, _], _ => rfl
  have bLtags : Binds K dLtags ["sign"] [] := FLtags.bindsN fun _ _ _ _ _ _ us hl => match us, hl with | [_], _ => rfl
  exact okD F scLdrawnsheet len (tLdrawnsheet SLdraw SLpick SLtags) (fun cdv A outer s H E hr => PSs.nox (qss_cons (qs_asg (qe_tup (qa_cons (qe_op od_add qe_int (qe_call GLdraw (hr.mono (by decide)) rfl gLdraw FLdraw.kp bLdraw .nil (fun _ => rfl) (qa_cons (qv 0) (qa_cons (qv 2) qa_nil)))) (qa_cons (qe_call GLtags (hr.mono (by decide)) rfl gLtags FLtags.kp bLtags .nil (fun _ => rfl) (qa_cons (qv 1) qa_nil)) qa_nil))) (qg_tup rfl (qgs_cons (qg_name (i := 3) scLdrawnsheet.nd rfl (by first | exact Or.inl rfl | exact Or.inr rfl)) (qgs_cons (qg_name (i := 4) scLdrawnsheet.nd rfl (by first | exact Or.inl rfl | exact Or.inr rfl)) qgs_nil)))) (qss_cons (qs_if (qt_cmp od_gt (qe_call GLdraw (hr.mono (by decide)) rfl gLdraw FLdraw.kp bLdraw .nil (fun _ => rfl) (qa_cons (qv 0) (qa_cons qe_int qa_nil))) qe_int rfl) (qss_one (qs_set (i := 4) scLdrawnsheet.nd rfl (by first | exact Or.inl rfl | exact Or.inr rfl) (qe_op od_add (qv 4) (qe_op od_mul (qe_lc (own := [("it", 5)]) rfl scLdrawnsheet.nd (qi_it (qv 4)) (blkOk_by (N := NLdrawnsheet) (sc := defScope (top 23)) (by decide +kernel)) (by decide) (fun _ _ _ _ _ => (pg_name (i := 5) scLdrawnsheet.nd rfl (by first | exact Or.inl rfl | exact Or.inr rfl))) (fun _ _ _ _ _ => (qts_one (qt_cmp od_gt (qe_ix (room_u hr) (qv 5) qe_int (fun _ _ => rfl)) qe_int rfl))) (fun _ _ _ _ _ => (qv 5))) qe_int)))) qss_nil) (qss_cons (qs_set (i := 6) scLdrawnsheet.nd rfl (by first | exact Or.inl rfl | exact Or.inr rfl) (qe_lst qa_nil)) (qss_cons (qs_for .never rfl (qi_range1 rfl gs.range (qa_cons (qv 3) qa_nil)) (qg_name (i := 7) scLdrawnsheet.nd rfl (by first | exact Or.inl rfl | exact Or.inr rfl)) (qss_cons (qs_asg (qe_call GLpick hr rfl gLpick FLpick.kp bLpick .nil (fun _ => rfl) (qa_cons (qv 0) (qa_cons (qv 4) qa_nil))) (qg_tup rfl (qgs_cons (qg_name (i := 8) scLdrawnsheet.nd rfl (by first | exact Or.inl rfl | exact Or.inr rfl)) (qgs_cons (qg_name (i := 9) scLdrawnsheet.nd rfl (by first | exact Or.inl rfl | exact Or.inr rfl)) qgs_nil)))) (qss_one (qs_expr (qe_bm PySem.F.plainAttrs_list PySem.F.slot_list_append rfl mtd_append (qv 6) (qa_cons (qe_tup (qa_cons (qv 8) (qa_cons (qe_callTy cd_tuple rfl gs.tuple rfl (qa_cons (qe_lc (own := [("field", 10)]) rfl scLdrawnsheet.nd (qi_range1 rfl gs.range (qa_cons (qv 9) qa_nil)) (blkOk_by (N := NLdrawnsheet) (sc := defScope (top 23)) (by decide +kernel)) (by decide) (fun _ _ _ _ _ => (pg_name (i := 10) scLdrawnsheet.nd rfl (by first | exact Or.inl rfl | exact Or.inr rfl))) (fun _ _ _ _ _ => qts_nil) (fun _ _ _ _ _ => (qe_call GLdraw (hr.mono (by decide)) rfl gLdraw FLdraw.kp bLdraw .nil (fun _ => rfl) (qa_cons (qv 0) (qa_cons (qv 3) qa_nil))))) qa_nil)) qa_nil))) qa_nil)))))) (qss_one (qs_ret (qe_callTy cd_tuple rfl gs.tuple rfl (qa_cons (qv 6) qa_nil))))))))) rd
abbrev NLfields : List Str := ["row"]
theorem scLfields : FnScope NLfields ["row"] (defScope (top 24)) := ⟨rfl, rfl, rfl, by decide +kernel, rfl, by decide +kernel, by decide +kernel⟩
def tLfields : TSd := (dRet (dIfE (dTest (dOp (rEqv false) (dOp rIx (dVar 0) (dC (.int 0))) (dC (.str "?")))) (dTup dNil) (dOp rIx (dVar 0) (dC (.int 1)))))
theorem okLfields (gs : Gs mg) (F : FnP K "_law_fields" (top 24) f fd) {S : SpD} (len : ∀ ds G q, S ds G q → ds.length = 1)
    (rd : ∀ ds G q, S ds G q → tLfields { nx := fun _ G' => fin (q .non) G', rt := fun d G' => fin (q d) G' } (startD NLfields ds) G) : FnOk P w K mg base CX0 1 f fd ["row"] (liftSp ⟨K, P, w⟩ S) := by
  exact okD F scLfields len (tLfields) (fun cdv A outer s H E hr => PSs.nox (qss_one (qs_ret (qe_if (qt_cmp (od_eq (room_u hr)) (qe_ix (room_u hr) (qv 0) qe_int (fun _ _ => rfl)) qe_str rfl) (qe_tup qa_nil) (qe_ix (room_u hr) (qv 0) qe_int (fun _ _ => rfl)))))) rd
abbrev NLlabel : List Str := ["row"]
theorem scLlabel : FnScope NLlabel ["row"] (defScope (top 25)) := ⟨rfl, rfl, rfl, by decide +kernel, rfl, by decide +kernel, by decide +kernel⟩
def tLlabel : TSd := (dRet (dIfE (dTest (dOp (rEqv false) (dOp rIx (dVar 0) (dC (.int 0))) (dC (.str "?")))) (dOp rAdd (dC (.str "?")) (dOp rIx (dVar 0) (dC (.int 1)))) (dOp rIx (dVar 0) (dC (.int 0)))))
theorem okLlabel (gs : Gs mg) (F : FnP K "_law_label" (top 25) f fd) {S : SpD} (len : ∀ ds G q, S ds G q → ds.length = 1)
    (rd : ∀ ds G q, S ds G q → tLlabel { nx := fun _ G' => fin (q .non) G', rt := fun d G' => fin (q d) G' } (startD NLlabel ds) G) : FnOk P w K mg base CX0 1 f fd ["row"] (liftSp ⟨K, P, w⟩ S) := by
  exact okD F scLlabel len (tLlabel) (fun cdv A outer s H E hr => PSs.nox (qss_one (qs_ret (qe_if (qt_cmp (od_eq (room_u hr)) (qe_ix (room_u hr) (qv 0) qe_int (fun _ _ => rfl)) qe_str rfl) (qe_op od_add qe_str (qe_ix (room_u hr) (qv 0) qe_int (fun _ _ => rfl))) (qe_ix (room_u hr) (qv 0) qe_int (fun _ _ => rfl)))))) rd
abbrev NLclasses : List Str := ["rows", "names", "row", "found", "turn", "keys", "to", "at", "key", "later"]
theorem scLclasses : FnScope NLclasses ["rows"] (defScope (top 26)) := ⟨rfl, rfl, rfl, by decide +kernel, rfl, by decide +kernel, by decide +kernel⟩
def tLclasses (SLlabel : SpD) (SLfields : SpD) : TSd := (dSeq (dAsg (dSortSet (dLc (dIt (dVar 0)) (.nm 2) dYes (dTup (dCons (dCall SLlabel [] (dCons (dVar 2) dNil)) (dCons (dCB rLen (dCons (dCall SLfields [] (dCons (dVar 2) dNil)) dNil)) dNil))) [2])) (dName 1)) (dSeq (dAsg (dLc (dIt (dVar 0)) (.nm 2) dYes (dBM "list" rIndexL (dVar 1) (dCons (dTup (dCons (dCall SLlabel [] (dCons (dVar 2) dNil)) (dCons (dCB rLen (dCons (dCall SLfields [] (dCons (dVar 2) dNil)) dNil)) dNil))) dNil)) [2]) (dName 3)) (dSeq (dFor (dRange1 (dCons (dCB rLen (dCons (dVar 0) dNil)) dNil)) (dName 4) (dSeq (dAsg (dLc (dEnum (dCons (dVar 0) dNil)) (.tp [7, 2]) dYes (dTup (dCons (dOp rIx (dVar 3) (dVar 7)) (dCons (dCB rTuple (dCons (dLc (dIt (dCall SLfields [] (dCons (dVar 2) dNil))) (.nm 6) dYes (dOp rIx (dVar 3) (dVar 6)) [6]) dNil)) dNil))) [7, 2]) (dName 5)) (dSeq (dAsg (dCB rDictP (dCons (dLc (dEnum (dCons (dSortSet (dVar 5)) dNil)) (.tp [7, 8]) dYes (dTup (dCons (dVar 8) (dCons (dVar 7) dNil))) [7, 8]) dNil)) (dName 1)) (dSeq (dAsg (dLc (dIt (dVar 5)) (.nm 8) dYes (dOp rIx (dVar 1) (dVar 8)) [8]) (dName 9)) (dSeq (dIf (dTest (dOp (rEqv false) (dCB rLen (dCons (dVar 1) dNil)) (dLenSetI (dVar 3)))) (dRet (dVar 9)) dNext) (dAsg (dVar 9) (dName 3))))))) (dRet (dVar 3)))))
theorem okLclasses (gs : Gs mg) (F : FnP K "_law_classes" (top 26) f fd) {aLlabel : Addr} {dLlabel : FuncData} {SLlabel : SpD} (FLlabel : FnP K "_law_label" (top 25) aLlabel dLlabel) (GLlabel : FnOk P w K mg base CX0 1 aLlabel dLlabel ["row"] (liftSp ⟨K, P, w⟩ SLlabel)) (gLlabel : mg "_law_label" = some (.ref aLlabel)) {aLfields : Addr} {dLfields : FuncData} {SLfields : SpD} (FLfields : FnP K "_law_fields" (top 24) aLfields dLfields) (GLfields : FnOk P w K mg base CX0 1 aLfields dLfields ["row"] (liftSp ⟨K, P, w⟩ SLfields)) (gLfields : mg "_law_fields" = some (.ref aLfields)) {S : SpD} (len : ∀ ds G q, S ds G q → ds.length = 1)
    (rd : ∀ ds G q, S ds G q → tLclasses SLlabel SLfields { nx := fun _ G' => fin (q .non) G', rt := fun d G' => fin (q d) G' } (startD NLclasses ds) G) : FnOk P w K mg base CX0 2 f fd ["rows"] (liftSp ⟨K, P, w⟩ S) := by
  have bLlabel : Binds K dLlabel ["row"] [] := FLlabel.bindsN fun _ _ _ _ _ _ us hl => match us, hl with | [_], _ => rfl
  have bLfields : Binds K dLfields ["row"] [] := FLfields.bindsN fun _ _ _ _ _ _ us hl => match us, hl with | [_], _ => rfl
  exact okD F scLclasses len (tLclasses SLlabel SLfields) (fun cdv A outer s H E hr => PSs.nox (qss_cons (qs_set (i := 1) scLclasses.nd rfl (by first | exact Or.inl rfl | exact Or.inr rfl) (qe_sortSet rfl (room_u hr) rfl gs.sorted rfl gs.set (qe_lc (own := [("row", 2)]) rfl scLclasses.nd (qi_it (qv 0)) (blkOk_by (N := NLclasses) (sc := defScope (top 26)) (by decide +kernel)) (by decide) (fun _ _ _ _ _ => (pg_name (i := 2) scLclasses.nd rfl (by first | exact Or.inl rfl | exact Or.inr rfl))) (fun _ _ _ _ _ => qts_nil) (fun _ _ _ _ _ => (qe_tup (qa_cons (qe_call GLlabel hr rfl gLlabel FLlabel.kp bLlabel .nil (fun _ => rfl) (qa_cons (qv 2) qa_nil)) (qa_cons (qe_callB cd_len rfl gs.len rfl (qa_cons (qe_call GLfields hr rfl gLfields FLfields.kp bLfields .nil (fun _ => rfl) (qa_cons (qv 2) qa_nil)) qa_nil)) qa_nil))))))) (qss_cons (qs_set (i := 3) scLclasses.nd rfl (by first | exact Or.inl rfl | exact Or.inr rfl) (qe_lc (own := [("row", 2)]) rfl scLclasses.nd (qi_it (qv 0)) (blkOk_by (N := NLclasses) (sc := defScope (top 26)) (by decide +kernel)) (by decide) (fun _ _ _ _ _ => (pg_name (i := 2) scLclasses.nd rfl (by first | exact Or.inl rfl | exact Or.inr rfl))) (fun _ _ _ _ _ => qts_nil) (fun _ _ _ _ _ => (qe_bm PySem.F.plainAttrs_list PySem.F.slot_list_index rfl (mtd_index (room_v hr)) (qv 1) (qa_cons (qe_tup (qa_cons (qe_call GLlabel hr rfl gLlabel FLlabel.kp bLlabel .nil (fun _ => rfl) (qa_cons (qv 2) qa_nil)) (qa_cons (qe_callB cd_len rfl gs.len rfl (qa_cons (qe_call GLfields hr rfl gLfields FLfields.kp bLfields .nil (fun _ => rfl) (qa_cons (qv 2) qa_nil)) qa_nil)) qa_nil))) qa_nil))))) (qss_cons (qs_for .never rfl (qi_range1 rfl gs.range (qa_cons (qe_callB cd_len rfl gs.len rfl (qa_cons (qv 0) qa_nil)) qa_nil)) (qg_name (i := 4) scLclasses.nd rfl (by first | exact Or.inl rfl | exact Or.inr rfl)) (qss_cons (qs_setLc (i := 5) (own := [("at", 7), ("row", 2)]) rfl scLclasses.nd rfl rfl (sw_true rfl rfl rfl (by decide +kernel)) (qi_enum rfl gs.enumerate (qa_cons (qv 0) qa_nil)) (blkOk_by (N := NLclasses) (sc := defScope (top 26)) (by decide +kernel)) (by decide) (fun _ _ _ _ _ => (pg_tup rfl (pgs_cons (pg_name (i := 7) scLclasses.nd rfl (by first | exact Or.inl rfl | exact Or.inr rfl)) (pgs_cons (pg_name (i := 2) scLclasses.nd rfl (by first | exact Or.inl rfl | exact Or.inr rfl)) pgs_nil)) rfl rfl)) (fun _ _ _ _ _ => qts_nil) (fun _ _ _ _ _ => (qe_tup (qa_cons (qe_ix (room_u hr) (qv 3) (qv 7) (fun _ _ => rfl)) (qa_cons (qe_callTy cd_tuple rfl gs.tuple rfl (qa_cons (qe_lc (own := [("to", 6)]) rfl scLclasses.nd (qi_it (qe_call GLfields hr rfl gLfields FLfields.kp bLfields .nil (fun _ => rfl) (qa_cons (qv 2) qa_nil))) (blkOk_by (by rfl)) (by decide) (fun _ _ _ _ _ => (pg_name (i := 6) scLclasses.nd rfl (by first | exact Or.inl rfl | exact Or.inr rfl))) (fun _ _ _ _ _ => qts_nil) (fun _ _ _ _ _ => (qe_ix (room_u hr) (qv 3) (qv 6) (fun _ _ => rfl)))) qa_nil)) qa_nil))))) (qss_cons (qs_set (i := 1) scLclasses.nd rfl (by first | exact Or.inl rfl | exact Or.inr rfl) (qe_callTy (cd_dictP rfl (room_u hr)) rfl gs.dict rfl (qa_cons (qe_lc (own := [("at", 7), ("key", 8)]) rfl scLclasses.nd (qi_enum rfl gs.enumerate (qa_cons (qe_sortSet rfl (room_u hr) rfl gs.sorted rfl gs.set (qv 5)) qa_nil)) (blkOk_by (N := NLclasses) (sc := defScope (top 26)) (by decide +kernel)) (by decide) (fun _ _ _ _ _ => (pg_tup rfl (pgs_cons (pg_name (i := 7) scLclasses.nd rfl (by first | exact Or.inl rfl | exact Or.inr rfl)) (pgs_cons (pg_name (i := 8) scLclasses.nd rfl (by first | exact Or.inl rfl | exact Or.inr rfl)) pgs_nil)) rfl rfl)) (fun _ _ _ _ _ => qts_nil) (fun _ _ _ _ _ => (qe_tup (qa_cons (qv 8) (qa_cons (qv 7) qa_nil))))) qa_nil))) (qss_cons (qs_setLc (i := 9) (own := [("key", 8)]) rfl scLclasses.nd rfl rfl (sw_true rfl rfl rfl (by decide +kernel)) (qi_it (qv 5)) (blkOk_by (N := NLclasses) (sc := defScope (top 26)) (by decide +kernel)) (by decide) (fun _ _ _ _ _ => (pg_name (i := 8) scLclasses.nd rfl (by first | exact Or.inl rfl | exact Or.inr rfl))) (fun _ _ _ _ _ => qts_nil) (fun _ _ _ _ _ => (qe_ix (room_u hr) (qv 1) (qv 8) (fun _ _ => rfl)))) (qss_cons (qs_if (qt_cmp (od_eq (room_u hr)) (qe_callB cd_len rfl gs.len rfl (qa_cons (qv 1) qa_nil)) (qe_lenSetI rfl rfl gs.len rfl gs.set (qv 3)) rfl) (qss_one (qs_ret (qv 9))) qss_nil) (qss_one (qs_set (i := 3) scLclasses.nd rfl (by first | exact Or.inl rfl | exact Or.inr rfl) (qv 9)))))))) (qss_one (qs_ret (qv 3))))))) rd
abbrev NLleast : List Str := ["rows", "root", "classes", "known", "order", "todo", "at", "found", "row", "to"]
theorem scLleast : FnScope NLleast ["rows", "root"] (defScope (top 27)) := ⟨rfl, rfl, rfl, by decide +kernel, rfl, by decide +kernel, by decide +kernel⟩
def tLleast (SLclasses : SpD) (SLfields : SpD) : TSd := (dSeq (dAsg (dTup (dCons (dCall SLclasses [] (dCons (dVar 0) dNil)) (dCons dNewD (dCons (dLst dNil) (dCons (dLst (dCons (dVar 1) dNil)) dNil))))) (dTupG 4 (dGcons (dName 2) (dGcons (dName 3) (dGcons (dName 4) (dGcons (dName 5) dGnil)))))) (dSeq (dWhile (dTest (dOp (rEqv true) (dVar 5) (dLst dNil))) (dSeq (dAsg (dBM "list" rPopD (dVar 5) dNil) (dName 6)) (dIf (dTest (dOp (rInDic true) (dOp rIx (dVar 2) (dVar 6)) (dVar 3))) (dSeq (dAsg (dCB rLen (dCons (dVar 4) dNil)) (dSub (dVar 3) (dOp rIx (dVar 2) (dVar 6)))) (dSeq (dDrop (dBM "list" rAppendD (dVar 4) (dCons (dVar 6) dNil))) (dDrop (dBM "list" rExtendA (dVar 5) (dCons (dRev (dCall SLfields [] (dCons (dOp rIx (dVar 0) (dVar 6)) dNil))) dNil))))) dNext))) (dSeq (dAsg (dLst dNil) (dName 7)) (dSeq (dFor (dIt (dVar 4)) (dName 6) (dSeq (dAsg (dOp rIx (dVar 0) (dVar 6)) (dName 8)) (dDrop (dBM "list" rAppendD (dVar 7) (dCons (dIfE (dTest (dOp (rEqv false) (dOp rIx (dVar 8) (dC (.int 0))) (dC (.str "?")))) (dVar 8) (dTup (dCons (dOp rIx (dVar 8) (dC (.int 0))) (dCons (dCB rTuple (dCons (dLc (dIt (dOp rIx (dVar 8) (dC (.int 1)))) (.nm 9) dYes (dOp rIx (dVar 3) (dOp rIx (dVar 2) (dVar 9))) [9]) dNil)) dNil)))) dNil))))) (dRet (dCB rTuple (dCons (dVar 7) dNil)))))))
theorem okLleast (gs : Gs mg) (F : FnP1 K "_law_least" (top 27) f fd) {aLclasses : Addr} {dLclasses : FuncData} {SLclasses : SpD} (FLclasses : FnP K "_law_classes" (top 26) aLclasses dLclasses) (GLclasses : FnOk P w K mg base CX0 2 aLclasses dLclasses ["rows"] (liftSp ⟨K, P, w⟩ SLclasses)) (gLclasses : mg "_law_classes" = some (.ref aLclasses)) {aLfields : Addr} {dLfields : FuncData} {SLfields : SpD} (FLfields : FnP K "_law_fields" (top 24) aLfields dLfields) (GLfields : FnOk P w K mg base CX0 1 aLfields dLfields ["row"] (liftSp ⟨K, P, w⟩ SLfields)) (gLfields : mg "_law_fields" = some (.ref aLfields)) {S : SpD} (len : ∀ ds G q, S ds G q → ds.length = 2)
    (rd : ∀ ds G q, S ds G q → tLleast SLclasses SLfields { nx := fun _ G' => fin (q .non) G', rt := fun d G' => fin (q d) G' } (startD NLleast ds) G) : FnOk P w K mg base CX0 3 f fd ["rows", "root"] (liftSp ⟨K, P, w⟩ S) := by
  have bLclasses : Binds K dLclasses ["rows"] [] := FLclasses.bindsN fun _ _ _ _ _ _ us hl => match us, hl with | [_], _ => rfl
  have bLfields : Binds K dLfields ["row"] [] := FLfields.bindsN fun _ _ _ _ _ _ us hl => match us, hl with | [_], _ => rfl
  exact okD F scLleast len (tLleast SLclasses SLfields) (fun cdv A outer s H E hr => PSs.nox (qss_cons (qs_asg (qe_tup (qa_cons (qe_call GLclasses hr rfl gLclasses FLclasses.kp bLclasses .nil (fun _ => rfl) (qa_cons (qv 0) qa_nil)) (qa_cons qe_dnew (qa_cons (qe_lst qa_nil) (qa_cons (qe_lst (qa_cons (qv 1) qa_nil)) qa_nil))))) (qg_tup rfl (qgs_cons (qg_name (i := 2) scLleast.nd rfl (by first | exact Or.inl rfl | exact Or.inr rfl)) (qgs_cons (qg_name (i := 3) scLleast.nd rfl (by first | exact Or.inl rfl | exact Or.inr rfl)) (qgs_cons (qg_name (i := 4) scLleast.nd rfl (by first | exact Or.inl rfl | exact Or.inr rfl)) (qgs_cons (qg_name (i := 5) scLleast.nd rfl (by first | exact Or.inl rfl | exact Or.inr rfl)) qgs_nil)))))) (qss_cons (qs_while .never (qt_cmp (od_ne (room_u hr)) (qv 5) (qe_lst qa_nil) rfl) (qss_cons (qs_set (i := 6) scLleast.nd rfl (by first | exact Or.inl rfl | exact Or.inr rfl) (qe_bm0 PySem.F.plainAttrs_list PySem.F.slot_list_pop rfl mtd_pop (qv 5))) (qss_one (qs_if (qt_cmp (op_notInDic (room_u hr)) (qe_ix (room_u hr) (qv 2) (qv 6) (fun _ _ => rfl)) (qv 3) rfl) (qss_cons (qs_asg (qe_callB cd_len rfl gs.len rfl (qa_cons (qv 4) qa_nil)) (qg_sub (room_u hr) (qv 3) (qe_ix (room_u hr) (qv 2) (qv 6) (fun _ _ => rfl)) (fun _ => rfl))) (qss_cons (qs_expr (qe_bm PySem.F.plainAttrs_list PySem.F.slot_list_append rfl mtd_append (qv 4) (qa_cons (qv 6) qa_nil))) (qss_one (qs_expr (qe_bm PySem.F.plainAttrs_list PySem.F.slot_list_extend rfl mtd_extendA (qv 5) (qa_cons (qe_rev (qe_call GLfields (hr.mono (by decide)) rfl gLfields FLfields.kp bLfields .nil (fun _ => rfl) (qa_cons (qe_ix (room_u hr) (qv 0) (qv 6) (fun _ _ => rfl)) qa_nil))) qa_nil)))))) qss_nil)))) (qss_cons (qs_set (i := 7) scLleast.nd rfl (by first | exact Or.inl rfl | exact Or.inr rfl) (qe_lst qa_nil)) (qss_cons (qs_for .never rfl (qi_it (qv 4)) (qg_name (i := 6) scLleast.nd rfl (by first | exact Or.inl rfl | exact Or.inr rfl)) (qss_cons (qs_set (i := 8) scLleast.nd rfl (by first | exact Or.inl rfl | exact Or.inr rfl) (qe_ix (room_u hr) (qv 0) (qv 6) (fun _ _ => rfl))) (qss_one (qs_expr (qe_bm PySem.F.plainAttrs_list PySem.F.slot_list_append rfl mtd_append (qv 7) (qa_cons (qe_if (qt_cmp (od_eq (room_u hr)) (qe_ix (room_u hr) (qv 8) qe_int (fun _ _ => rfl)) qe_str rfl) (qv 8) (qe_tup (qa_cons (qe_ix (room_u hr) (qv 8) qe_int (fun _ _ => rfl)) (qa_cons (qe_callTy cd_tuple rfl gs.tuple rfl (qa_cons (qe_lc (own := [("to", 9)]) rfl scLleast.nd (qi_it (qe_ix (room_u hr) (qv 8) qe_int (fun _ _ => rfl))) (blkOk_by (N := NLleast) (sc := defScope (top 27)) (by decide +kernel)) (by decide) (fun _ _ _ _ _ => (pg_name (i := 9) scLleast.nd rfl (by first | exact Or.inl rfl | exact Or.inr rfl))) (fun _ _ _ _ _ => qts_nil) (fun _ _ _ _ _ => (qe_ix (room_u hr) (qv 3) (qe_ix (room_u hr) (qv 2) (qv 9) (fun _ _ => rfl)) (fun _ _ => rfl)))) qa_nil)) qa_nil)))) qa_nil)))))) (qss_one (qs_ret (qe_callTy cd_tuple rfl gs.tuple rfl (qa_cons (qv 7) qa_nil))))))))) rd
abbrev NLdisguised : List Str := ["deck", "rows", "at", "row", "tag", "fields", "to", "order", "spots", "found", "k"]
theorem scLdisguised : FnScope NLdisguised ["deck", "rows"] (defScope (top 28)) := ⟨rfl, rfl, rfl, by decide +kernel, rfl, by decide +kernel, by decide +kernel⟩
def tLdisguised (SLdraw : SpD) (SLsome : SpD) : TSd := (dSeq (dAsg (dCB rList (dCons (dVar 1) dNil)) (dName 1)) (dSeq (dIf (dAnd (dTest (dOp (rEqv false) (dCall SLdraw [] (dCons (dVar 0) (dCons (dC (.int 2)) dNil))) (dC (.int 0)))) (dTest (dOp rLt (dCB rLen (dCons (dVar 1) dNil)) (dC (.int 20))))) (dSeq (dAsg (dCall SLdraw [] (dCons (dVar 0) (dCons (dCB rLen (dCons (dVar 1) dNil)) dNil))) (dName 2)) (dSeq (dDrop (dBM "list" rAppendD (dVar 1) (dCons (dOp rIx (dVar 1) (dVar 2)) dNil))) (dFor (dRange1 (dCons (dCB rLen (dCons (dVar 1) dNil)) dNil)) (dName 3) (dSeq (dAsg (dOp rIx (dVar 1) (dVar 3)) (dTupG 2 (dGcons (dName 4) (dGcons (dName 5) dGnil)))) (dIf (dTest (dOp (rEqv true) (dVar 4) (dC (.str "?")))) (dAsg (dTup (dCons (dVar 4) (dCons (dCB rTuple (dCons (dLc (dIt (dVar 5)) (.nm 6) dYes (dIfE (dAnd (dTest (dOp (rEqv false) (dVar 6) (dVar 2))) (dTest (dOp (rEqv false) (dCall SLdraw [] (dCons (dVar 0) (dCons (dC (.int 2)) dNil))) (dC (.int 0))))) (dOp rSubI (dCB rLen (dCons (dVar 1) dNil)) (dC (.int 1))) (dVar 6)) [6]) dNil)) dNil))) (dSub (dVar 1) (dVar 3))) dNext))))) dNext) (dSeq (dAsg (dOp rAdd (dLst (dCons (dC (.int 0)) dNil)) (dCall SLsome [] (dCons (dVar 0) (dCons (dListR2 (dC (.int 1)) (dCB rLen (dCons (dVar 1) dNil))) (dCons (dOp rSubI (dCB rLen (dCons (dVar 1) dNil)) (dC (.int 1))) dNil))))) (dName 7)) (dSeq (dAsg (dTup (dCons (dCB rDictP (dCons (dLc (dEnum (dCons (dVar 7) dNil)) (.tp [10, 2]) dYes (dTup (dCons (dVar 2) (dCons (dVar 10) dNil))) [10, 2]) dNil)) (dCons (dLst dNil) dNil))) (dTupG 2 (dGcons (dName 8) (dGcons (dName 9) dGnil)))) (dSeq (dFor (dIt (dVar 7)) (dName 2) (dSeq (dAsg (dOp rIx (dVar 1) (dVar 2)) (dName 3)) (dDrop (dBM "list" rAppendD (dVar 9) (dCons (dIfE (dTest (dOp (rEqv false) (dOp rIx (dVar 3) (dC (.int 0))) (dC (.str "?")))) (dVar 3) (dTup (dCons (dOp rIx (dVar 3) (dC (.int 0))) (dCons (dCB rTuple (dCons (dLc (dIt (dOp rIx (dVar 3) (dC (.int 1)))) (.nm 6) dYes (dOp rIx (dVar 8) (dVar 6)) [6]) dNil)) dNil)))) dNil))))) (dRet (dCB rTuple (dCons (dVar 9) dNil))))))))
theorem okLdisguised (gs : Gs mg) (F : FnP K "_law_disguised" (top 28) f fd) {aLdraw : Addr} {dLdraw : FuncData} {SLdraw : SpD} (FLdraw : FnP K "_law_draw" (top 17) aLdraw dLdraw) (GLdraw : FnOk P w K mg base CX0 1 aLdraw dLdraw ["deck", "many"] (liftSp ⟨K, P, w⟩ SLdraw)) (gLdraw : mg "_law_draw" = some (.ref aLdraw)) {aLsome : Addr} {dLsome : FuncData} {SLsome : SpD} (FLsome : FnP K "_law_some" (top 19) aLsome dLsome) (GLsome : FnOk P w K mg base CX0 2 aLsome dLsome ["deck", "row", "many"] (liftSp ⟨K, P, w⟩ SLsome)) (gLsome : mg "_law_some" = some (.ref aLsome)) {S : SpD} (len : ∀ ds G q, S ds G q → ds.length = 2)
    (rd : ∀ ds G q, S ds G q → tLdisguised SLdraw SLsome { nx := fun _ G' => fin (q .non) G', rt := fun d G' => fin (q d) G' } (startD NLdisguised ds) G) : FnOk P w K mg base CX0 3 f fd ["deck", "rows"] (liftSp ⟨K, P, w⟩ S) := by
  have bLdraw : Binds K dLdraw ["deck", "many"] [] := FLdraw.bindsN fun _ _ _ _ _ _ us hl => match us, hl with | [_, _], _ => rfl
  have bLsome : Binds K dLsome ["deck", "row", "many"] [] := FLsome.bindsN fun _ _ _ _ _ _ us hl => match us, hl with | [_, _, _], _ => rfl
  exact okD F scLdisguised len (tLdisguised SLdraw SLsome) (fun cdv A outer s H E hr => PSs.nox (qss_cons (qs_set (i := 1) scLdisguised.nd rfl (by first | exact Or.inl rfl | exact Or.inr rfl) (qe_callTy (cd_list rfl) rfl gs.list rfl (qa_cons (qv 1) qa_nil))) (qss_cons (qs_if (PW.pt (qw_and (qt_cmp (od_eq (room_u hr)) (qe_call GLdraw (hr.mono (by decide)) rfl gLdraw FLdraw.kp bLdraw .nil (fun _ => rfl) (qa_cons (qv 0) (qa_cons qe_int qa_nil))) qe_int rfl) (qw_and1 (qt_cmp od_lt (qe_callB cd_len rfl gs.len rfl (qa_cons (qv 1) qa_nil)) qe_int rfl)))) (qss_cons (qs_set (i := 2) scLdisguised.nd rfl (by first | exact Or.inl rfl | exact Or.inr rfl) (qe_call GLdraw (hr.mono (by decide)) rfl gLdraw FLdraw.kp bLdraw .nil (fun _ => rfl) (qa_cons (qv 0) (qa_cons (qe_callB cd_len rfl gs.len rfl (qa_cons (qv 1) qa_nil)) qa_nil)))) (qss_cons (qs_expr (qe_bm PySem.F.plainAttrs_list PySem.F.slot_list_append rfl mtd_append (qv 1) (qa_cons (qe_ix (room_u hr) (qv 1) (qv 2) (fun _ _ => rfl)) qa_nil))) (qss_one (qs_for .never rfl (qi_range1 rfl gs.range (qa_cons (qe_callB cd_len rfl gs.len rfl (qa_cons (qv 1) qa_nil)) qa_nil)) (qg_name (i := 3) scLdisguised.nd rfl (by first | exact Or.inl rfl | exact Or.inr rfl)) (qss_cons (qs_asg (qe_ix (room_u hr) (qv 1) (qv 3) (fun _ _ => rfl)) (qg_tup rfl (qgs_cons (qg_name (i := 4) scLdisguised.nd rfl (by first | exact Or.inl rfl | exact Or.inr rfl)) (qgs_cons (qg_name (i := 5) scLdisguised.nd rfl (by first | exact Or.inl rfl | exact Or.inr rfl)) qgs_nil)))) (qss_one (qs_if (qt_cmp (od_ne (room_u hr)) (qv 4) qe_str rfl) (qss_one (qs_asg (qe_tup (qa_cons (qv 4) (qa_cons (qe_callTy cd_tuple rfl gs.tuple rfl (qa_cons (qe_lc (own := [("to", 6)]) rfl scLdisguised.nd (qi_it (qv 5)) (blkOk_by (N := NLdisguised) (sc := defScope (top 28)) (by decide +kernel)) (by decide) (fun _ _ _ _ _ => (pg_name (i := 6) scLdisguised.nd rfl (by first | exact Or.inl rfl | exact Or.inr rfl))) (fun _ _ _ _ _ => qts_nil) (fun _ _ _ _ _ => (qe_if (PW.pt (qw_and (qt_cmp (od_eq (room_u hr)) (qv 6) (qv 2) rfl) (qw_and1 (qt_cmp (od_eq (room_u hr)) (qe_call GLdraw (hr.mono (by decide)) rfl gLdraw FLdraw.kp bLdraw .nil (fun _ => rfl) (qa_cons (qv 0) (qa_cons qe_int qa_nil))) qe_int rfl)))) (qe_op od_sub (qe_callB cd_len rfl gs.len rfl (qa_cons (qv 1) qa_nil)) qe_int) (qv 6)))) qa_nil)) qa_nil))) (qg_sub (room_u hr) (qv 1) (qv 3) (fun _ => rfl)))) qss_nil))))))) qss_nil) (qss_cons (qs_set (i := 7) scLdisguised.nd rfl (by first | exact Or.inl rfl | exact Or.inr rfl) (qe_op od_add (qe_lst (qa_cons qe_int qa_nil)) (qe_call GLsome hr rfl gLsome FLsome.kp bLsome .nil (fun _ => rfl) (qa_cons (qv 0) (qa_cons (qe_listRange2 rfl rfl gs.list rfl gs.range qe_int (qe_callB cd_len rfl gs.len rfl (qa_cons (qv 1) qa_nil))) (qa_cons (qe_op od_sub (qe_callB cd_len rfl gs.len rfl (qa_cons (qv 1) qa_nil)) qe_int) qa_nil)))))) (qss_cons (qs_asg (qe_tup (qa_cons (qe_callTy (cd_dictP rfl (room_u hr)) rfl gs.dict rfl (qa_cons (qe_lc (own := [("k", 10), ("at", 2)]) rfl scLdisguised.nd (qi_enum rfl gs.enumerate (qa_cons (qv 7) qa_nil)) (blkOk_by (N := NLdisguised) (sc := defScope (top 28)) (by decide +kernel)) (by decide) (fun _ _ _ _ _ => (pg_tup rfl (pgs_cons (pg_name (i := 10) scLdisguised.nd rfl (by first | exact Or.inl rfl | exact Or.inr rfl)) (pgs_cons (pg_name (i := 2) scLdisguised.nd rfl (by first | exact Or.inl rfl | exact Or.inr rfl)) pgs_nil)) rfl rfl)) (fun _ _ _ _ _ => qts_nil) (fun _ _ _ _ _ => (qe_tup (qa_cons (qv 2) (qa_cons (qv 10) qa_nil))))) qa_nil)) (qa_cons (qe_lst qa_nil) qa_nil))) (qg_tup rfl (qgs_cons (qg_name (i := 8) scLdisguised.nd rfl (by first | exact Or.inl rfl | exact Or.inr rfl)) (qgs_cons (qg_name (i := 9) scLdisguised.nd rfl (by first | exact Or.inl rfl | exact Or.inr rfl)) qgs_nil)))) (qss_cons (qs_for .never rfl (qi_it (qv 7)) (qg_name (i := 2) scLdisguised.nd rfl (by first | exact Or.inl rfl | exact Or.inr rfl)) (qss_cons (qs_set (i := 3) scLdisguised.nd rfl (by first | exact Or.inl rfl | exact Or.inr rfl) (qe_ix (room_u hr) (qv 1) (qv 2) (fun _ _ => rfl))) (qss_one (qs_expr (qe_bm PySem.F.plainAttrs_list PySem.F.slot_list_append rfl mtd_append (qv 9) (qa_cons (qe_if (qt_cmp (od_eq (room_u hr)) (qe_ix (room_u hr) (qv 3) qe_int (fun _ _ => rfl)) qe_str rfl) (qv 3) (qe_tup (qa_cons (qe_ix (room_u hr) (qv 3) qe_int (fun _ _ => rfl)) (qa_cons (qe_callTy cd_tuple rfl gs.tuple rfl (qa_cons (qe_lc (own := [("to", 6)]) rfl scLdisguised.nd (qi_it (qe_ix (room_u hr) (qv 3) qe_int (fun _ _ => rfl))) (blkOk_by (N := NLdisguised) (sc := defScope (top 28)) (by decide +kernel)) (by decide) (fun _ _ _ _ _ => (pg_name (i := 6) scLdisguised.nd rfl (by first | exact Or.inl rfl | exact Or.inr rfl))) (fun _ _ _ _ _ => qts_nil) (fun _ _ _ _ _ => (qe_ix (room_u hr) (qv 8) (qv 6) (fun _ _ => rfl)))) qa_nil)) qa_nil)))) qa_nil)))))) (qss_one (qs_ret (qe_callTy cd_tuple rfl gs.tuple rfl (qa_cons (qv 9) qa_nil)))))))))) rd
abbrev NLfirstpaths : List Str := ["rows", "found", "known", "at", "row", "path", "k", "to"]
theorem scLfirstpaths : FnScope NLfirstpaths ["rows"] (defScope (top 29)) := ⟨rfl, rfl, rfl, by decide +kernel, rfl, by decide +kernel, by decide +kernel⟩
def tLfirstpaths : TSd := (dSeq (dPar3 1 2 3 (dCons (dLst (dCons (dTup (dCons (dC (.int 0)) (dCons (dTup dNil) dNil))) dNil)) (dCons (dDisp [((dC (.int 0)), (dC (.bl true)))]) (dCons (dC (.int 0)) dNil)))) (dSeq (dWhile (dTest (dOp rLt (dVar 3) (dCB rLen (dCons (dVar 1) dNil)))) (dSeq (dAsg (dOp rIx (dVar 1) (dVar 3)) (dTupG 2 (dGcons (dName 4) (dGcons (dName 5) dGnil)))) (dSeq (dFor (dEnum (dCons (dOp rIx (dOp rIx (dVar 0) (dVar 4)) (dC (.int 1))) dNil)) (dTupG 2 (dGcons (dName 6) (dGcons (dName 7) dGnil))) (dIf (dTest (dOp (rInDic true) (dVar 7) (dVar 2))) (dSeq (dAsg (dC (.bl true)) (dSub (dVar 2) (dVar 7))) (dDrop (dBM "list" rAppendD (dVar 1) (dCons (dTup (dCons (dVar 7) (dCons (dOp rAdd (dVar 5) (dTup (dCons (dVar 6) dNil))) dNil))) dNil)))) dNext)) (dAsg (dOp rAdd (dVar 3) (dC (.int 1))) (dName 3))))) (dRet (dCB rTupF (dCons (dVar 1) dNil)))))
theorem okLfirstpaths (gs : Gs mg) (F : FnP K "_law_first_paths" (top 29) f fd) {S : SpD} (len : ∀ ds G q, S ds G q → ds.length = 1)
    (rd : ∀ ds G q, S ds G q → tLfirstpaths { nx := fun _ G' => fin (q .non) G', rt := fun d G' => fin (q d) G' } (startD NLfirstpaths ds) G) : FnOk P w K mg base CX0 1 f fd ["rows"] (liftSp ⟨K, P, w⟩ S) := by
  exact okD F scLfirstpaths len (tLfirstpaths) (fun cdv A outer s H E hr => PSs.nox (qss_cons (qs_par3 (i := 1) (j := 2) (m := 3) rfl scLfirstpaths.nd rfl rfl rfl (by decide) (by decide) (by decide) rfl rfl rfl (qa_cons (qe_lst (qa_cons (qe_tup (qa_cons qe_int (qa_cons (qe_tup qa_nil) qa_nil))) qa_nil)) (qa_cons (qe_disp (QPs.cons qe_int qe_bl QPs.nil)) (qa_cons qe_int qa_nil))) rfl) (qss_cons (qs_while .never (qt_cmp od_lt (qv 3) (qe_callB cd_len rfl gs.len rfl (qa_cons (qv 1) qa_nil)) rfl) (qss_cons (qs_asg (qe_ix (room_u hr) (qv 1) (qv 3) (fun _ _ => rfl)) (qg_tup rfl (qgs_cons (qg_name (i := 4) scLfirstpaths.nd rfl (by first | exact Or.inl rfl | exact Or.inr rfl)) (qgs_cons (qg_name (i := 5) scLfirstpaths.nd rfl (by first | exact Or.inl rfl | exact Or.inr rfl)) qgs_nil)))) (qss_cons (qs_for .never rfl (qi_enum rfl gs.enumerate (qa_cons (qe_ix (room_u hr) (qe_ix (room_u hr) (qv 0) (qv 4) (fun _ _ => rfl)) qe_int (fun _ _ => rfl)) qa_nil)) (qg_tup rfl (qgs_cons (qg_name (i := 6) scLfirstpaths.nd rfl (by first | exact Or.inl rfl | exact Or.inr rfl)) (qgs_cons (qg_name (i := 7) scLfirstpaths.nd rfl (by first | exact Or.inl rfl | exact Or.inr rfl)) qgs_nil))) (qss_one (qs_if (qt_cmp (op_notInDic (room_u hr)) (qv 7) (qv 2) rfl) (qss_cons (qs_asg qe_bl (qg_sub (room_u hr) (qv 2) (qv 7) (fun _ => rfl))) (qss_one (qs_expr (qe_bm PySem.F.plainAttrs_list PySem.F.slot_list_append rfl mtd_append (qv 1) (qa_cons (qe_tup (qa_cons (qv 7) (qa_cons (qe_op od_add (qv 5) (qe_tup (qa_cons (qv 6) qa_nil))) qa_nil))) qa_nil))))) qss_nil))) (qss_one (qs_set (i := 3) scLfirstpaths.nd rfl (by first | exact Or.inl rfl | exact Or.inr rfl) (qe_op od_add (qv 3) qe_int)))))) (qss_one (qs_ret (qe_callTy cd_tupleF rfl gs.tuple rfl (qa_cons (qv 1) qa_nil))))))) rd
abbrev NLlevels : List Str := ["rows", "depth", "found", "turn", "later", "at", "to"]
theorem scLlevels : FnScope NLlevels ["rows", "depth"] (defScope (top 30)) := ⟨rfl, rfl, rfl, by decide +kernel, rfl, by decide +kernel, by decide +kernel⟩
def tLlevels : TSd := (dSeq (dAsg (dLst (dCons (dCB rDictP (dCons (dLst (dCons (dTup (dCons (dC (.int 0)) (dCons (dC (.int 1)) dNil))) dNil)) dNil)) dNil)) (dName 2)) (dSeq (dFor (dRange1 (dCons (dVar 1) dNil)) (dName 3) (dSeq (dAsg dNewD (dName 4)) (dSeq (dLock (dFor (dKeys (dOp rIx (dVar 2) (dUn rNeg (dC (.int 1))))) (dName 5) (dFor (dIt (dOp rIx (dOp rIx (dVar 0) (dVar 5)) (dC (.int 1)))) (dName 6) (dAsg (dOp rAdd (dBM "dict" rGet (dVar 4) (dCons (dVar 6) (dCons (dC (.int 0)) dNil))) (dOp rIx (dOp rIx (dVar 2) (dUn rNeg (dC (.int 1)))) (dVar 5))) (dSub (dVar 4) (dVar 6)))))) (dDrop (dBM "list" rAppendD (dVar 2) (dCons (dVar 4) dNil)))))) (dRet (dVar 2))))
theorem okLlevels (gs : Gs mg) (F : FnP K "_law_levels" (top 30) f fd) {S : SpD} (len : ∀ ds G q, S ds G q → ds.length = 2)
    (rd : ∀ ds G q, S ds G q → tLlevels { nx := fun _ G' => fin (q .non) G', rt := fun d G' => fin (q d) G' } (startD NLlevels ds) G) : FnOk P w K mg base CX0 1 f fd ["rows", "depth"] (liftSp ⟨K, P, w⟩ S) := by
  exact okD F scLlevels len (tLlevels) (fun cdv A outer s H E hr => PSs.nox (qss_cons (qs_set (i := 2) scLlevels.nd rfl (by first | exact Or.inl rfl | exact Or.inr rfl) (qe_lst (qa_cons (qe_callTy (cd_dictP rfl (room_u hr)) rfl gs.dict rfl (qa_cons (qe_lst (qa_cons (qe_tup (qa_cons qe_int (qa_cons qe_int qa_nil))) qa_nil)) qa_nil)) qa_nil))) (qss_cons (qs_for .never rfl (qi_range1 rfl gs.range (qa_cons (qv 1) qa_nil)) (qg_name (i := 3) scLlevels.nd rfl (by first | exact Or.inl rfl | exact Or.inr rfl)) (qss_cons (qs_set (i := 4) scLlevels.nd rfl (by first | exact Or.inl rfl | exact Or.inr rfl) qe_dnew) (qss_cons (qs_lock (qs_for .never rfl (qi_keys (qe_ix (room_u hr) (qv 2) (qe_un ud_neg qe_int) (fun _ _ => rfl))) (qg_name (i := 5) scLlevels.nd rfl (by first | exact Or.inl rfl | exact Or.inr rfl)) (qss_one (qs_for .never rfl (qi_it (qe_ix (room_u hr) (qe_ix (room_u hr) (qv 0) (qv 5) (fun _ _ => rfl)) qe_int (fun _ _ => rfl))) (qg_name (i := 6) scLlevels.nd rfl (by first | exact Or.inl rfl | exact Or.inr rfl)) (qss_one (qs_asg (qe_op od_add (qe_bm PySem.F.plainAttrs_dict PySem.F.slot_dict_get rfl (mtd_get (room_u hr)) (qv 4) (qa_cons (qv 6) (qa_cons qe_int qa_nil))) (qe_ix (room_u hr) (qe_ix (room_u hr) (qv 2) (qe_un ud_neg qe_int) (fun _ _ => rfl)) (qv 5) (fun _ _ => rfl))) (qg_sub (room_u hr) (qv 4) (qv 6) (fun _ => rfl)))))))) (qss_one (qs_expr (qe_bm PySem.F.plainAttrs_list PySem.F.slot_list_append rfl mtd_append (qv 2) (qa_cons (qv 4) qa_nil))))))) (qss_one (qs_ret (qv 2)))))) rd
abbrev NLarecountsright : List Str := ["deck", "rows", "sheet", "depth", "levels", "tags", "counts", "level", "at", "due", "told"]
theorem scLarecountsright : FnScope NLarecountsright ["deck", "rows", "sheet"] (defScope (top 31)) := ⟨rfl, rfl, rfl, by decide +kernel, rfl, by decide +kernel, by decide +kernel⟩
def tLarecountsright (SLpick : SpD) (SLdraw : SpD) (SLlevels : SpD) (SLsame : SpD) (Slevelcounts : SpD) (Stagcounts : SpD) : TSd := (dSeq (dAsg (dCall SLpick [] (dCons (dVar 0) (dCons (dLst (dCons (dC (.int 0)) (dCons (dC (.int 1)) (dCons (dC (.int 2)) (dCons (dC (.int 3)) (dCons (dC (.int 5)) (dCons (dC (.int 8)) (dCons (dC (.int 13)) (dCons (dC (.int 60)) (dCons (dCall SLdraw [] (dCons (dVar 0) (dCons (dC (.int 61)) dNil))) dNil)))))))))) dNil))) (dName 3)) (dSeq (dPar 4 5 (dCons (dCall SLlevels [] (dCons (dVar 1) (dCons (dVar 3) dNil))) (dCons dNewD dNil))) (dSeq (dAsg (dCB rTuple (dCons (dLc (dIt (dVar 4)) (.nm 7) dYes (dCB rSumA (dCons (dListV (dVar 7)) dNil)) [7]) dNil)) (dName 6)) (dSeq (dFor (dIt (dVar 4)) (dName 7) (dLock (dFor (dKeys (dVar 7)) (dName 8) (dAsg (dOp rAdd (dBM "dict" rGet (dVar 5) (dCons (dOp rIx (dOp rIx (dVar 1) (dVar 8)) (dC (.int 0))) (dCons (dC (.int 0)) dNil))) (dOp rIx (dVar 7) (dVar 8))) (dSub (dVar 5) (dOp rIx (dOp rIx (dVar 1) (dVar 8)) (dC (.int 0)))))))) (dSeq (dAsg (dCB rTuple (dCons (dCB rSortedD (dCons (dListItems (dVar 5)) dNil)) dNil)) (dName 9)) (dSeq (dAsg (dLst (dCons (dCall Slevelcounts [] (dCons (dVar 2) (dCons (dVar 3) dNil))) (dCons (dCallK Slevelcounts twoW (dCons (dVar 3) (dCons (dVar 2) dNil))) dNil))) (dName 10)) (dSeq (dIf (dOr (dNot (dTest (dCall SLsame [] (dCons (dVar 10) (dCons (dLst (dCons (dVar 6) (dCons (dVar 6) dNil))) dNil))))) (dTest (dOp (rEqv true) (dCB rSumA (dCons (dVar 6) dNil)) (dCB rSumA (dCons (dListV (dVar 5)) dNil))))) (dRet (dC (.bl false))) dNext) (dRet (dCall SLsame [] (dCons (dLst (dCons (dCall Stagcounts [] (dCons (dVar 2) (dCons (dVar 3) dNil))) (dCons (dCallK Stagcounts twoW (dCons (dVar 3) (dCons (dVar 2) dNil))) dNil))) (dCons (dLst (dCons (dVar 9) (dCons (dVar 9) dNil))) dNil)))))))))))
theorem okLarecountsright (gs : Gs mg) (F : FnP K "_law_are_counts_right" (top 31) f fd) {aLpick : Addr} {dLpick : FuncData} {SLpick : SpD} (FLpick : FnP K "_law_pick" (top 18) aLpick dLpick) (GLpick : FnOk P w K mg base CX0 2 aLpick dLpick ["deck", "some"] (liftSp ⟨K, P, w⟩ SLpick)) (gLpick : mg "_law_pick" = some (.ref aLpick)) {aLdraw : Addr} {dLdraw : FuncData} {SLdraw : SpD} (FLdraw : FnP K "_law_draw" (top 17) aLdraw dLdraw) (GLdraw : FnOk P w K mg base CX0 1 aLdraw dLdraw ["deck", "many"] (liftSp ⟨K, P, w⟩ SLdraw)) (gLdraw : mg "_law_draw" = some (.ref aLdraw)) {aLlevels : Addr} {dLlevels : FuncData} {SLlevels : SpD} (FLlevels : FnP K "_law_levels" (top 30) aLlevels dLlevels) (GLlevels : FnOk P w K mg base CX0 1 aLlevels dLlevels ["rows", "depth"] (liftSp ⟨K, P, w⟩ SLlevels)) (gLlevels : mg "_law_levels" = some (.ref aLlevels)) {aLsame : Addr} {dLsame : FuncData} {SLsame : SpD} (FLsame : FnP K "_law_same" (top 20) aLsame dLsame) (GLsame : FnOk P w K mg base CX0 1 aLsame dLsame ["told", "due"] (liftSp ⟨K, P, w⟩ SLsame)) (gLsame : mg "_law_same" = some (.ref aLsame)) {alevelcounts : Addr} {dlevelcounts : FuncData} {Slevelcounts : SpD} (Flevelcounts : FnP K "level_counts" (top 13) alevelcounts dlevelcounts) (Glevelcounts : FnOk P w K mg base CX0 5 alevelcounts dlevelcounts ["sheet", "depth"] (liftSp ⟨K, P, w⟩ Slevelcounts)) (glevelcounts : mg "level_counts" = some (.ref alevelcounts)) {atagcounts : Addr} {dtagcounts : FuncData} {Stagcounts : SpD} (Ftagcounts : FnP K "tag_counts" (top 14) atagcounts dtagcounts) (Gtagcounts : FnOk P w K mg base CX0 5 atagcounts dtagcounts ["sheet", "depth"] (liftSp ⟨K, P, w⟩ Stagcounts)) (gtagcounts : mg "tag_counts" = some (.ref atagcounts)) {S : SpD} (len : ∀ ds G q, S ds G q → ds.length = 3)
    (rd : ∀ ds G q, S ds G q → tLarecountsright SLpick SLdraw SLlevels SLsame Slevelcounts Stagcounts { nx := fun _ G' => fin (q .non) G', rt := fun d G' => fin (q d) G' } (startD NLarecountsright ds) G) : FnOk P w K mg base CX0 6 f fd ["deck", "rows", "sheet"] (liftSp ⟨K, P, w⟩ S) := by
  have bLpick : Binds K dLpick ["deck", "some"] [] := FLpick.bindsN fun _ _ _ _ _ _ us hl => match us, hl with | [_, _], _ => rfl
  have bLdraw : Binds K dLdraw ["deck", "many"] [] := FLdraw.bindsN fun _ _ _ _ _ _ us hl => match us, hl with | [_, _], _ => rfl
  have bLlevels : Binds K dLlevels ["rows", "depth"] [] := FLlevels.bindsN fun _ _ _ _ _ _ us hl => match us, hl with | [_, _], _ => rfl
  have bLsame : Binds K dLsame ["told", "due"] [] := FLsame.bindsN fun _ _ _ _ _ _ us hl => match us, hl with | [_, _], _ => rfl
  have klevelcounts : KBinds K dlevelcounts ["sheet", "depth"] ["depth", "sheet"] twoW twoW := kb_two Flevelcounts (by intros; rfl)
  have blevelcounts : Binds K dlevelcounts ["sheet", "depth"] [] := Flevelcounts.bindsN fun _ _ _ _ _ _ us hl => match us, hl with | [_, _], _ => rfl
  have ktagcounts : KBinds K dtagcounts ["sheet", "depth"] ["depth", "sheet"] twoW twoW := kb_two Ftagcounts (by intros; rfl)
  have btagcounts : Binds K dtagcounts ["sheet", "depth"] [] := Ftagcounts.bindsN fun _ _ _ _ _ _ us hl => match us, hl with | [_, _], _ => rfl
  exact okD F scLarecountsright len (tLarecountsright SLpick SLdraw SLlevels SLsame Slevelcounts Stagcounts) (fun cdv A outer s H E hr => PSs.nox (qss_cons (qs_set (i := 3) scLarecountsright.nd rfl (by first | exact Or.inl rfl | exact Or.inr rfl) (qe_call GLpick (hr.mono (by decide)) rfl gLpick FLpick.kp bLpick .nil (fun _ => rfl) (qa_cons (qv 0) (qa_cons (qe_lst (qa_cons qe_int (qa_cons qe_int (qa_cons qe_int (qa_cons qe_int (qa_cons qe_int (qa_cons qe_int (qa_cons qe_int (qa_cons qe_int (qa_cons (qe_call GLdraw (hr.mono (by decide)) rfl gLdraw FLdraw.kp bLdraw .nil (fun _ => rfl) (qa_cons (qv 0) (qa_cons qe_int qa_nil))) qa_nil)))))))))) qa_nil)))) (qss_cons (qs_par (i := 4) (j := 5) rfl scLarecountsright.nd rfl rfl (by decide) rfl rfl (qa_cons (qe_call GLlevels (hr.mono (by decide)) rfl gLlevels FLlevels.kp bLlevels .nil (fun _ => rfl) (qa_cons (qv 1) (qa_cons (qv 3) qa_nil))) (qa_cons qe_dnew qa_nil)) rfl) (qss_cons (qs_set (i := 6) scLarecountsright.nd rfl (by first | exact Or.inl rfl | exact Or.inr rfl) (qe_callTy cd_tuple rfl gs.tuple rfl (qa_cons (qe_lc (own := [("level", 7)]) rfl scLarecountsright.nd (qi_it (qv 4)) (blkOk_by (N := NLarecountsright) (sc := defScope (top 31)) (by decide +kernel)) (by decide) (fun _ _ _ _ _ => (pg_name (i := 7) scLarecountsright.nd rfl (by first | exact Or.inl rfl | exact Or.inr rfl))) (fun _ _ _ _ _ => qts_nil) (fun _ _ _ _ _ => (qe_callB (cd_sumA rfl) rfl gs.sum rfl (qa_cons (qe_listV rfl rfl gs.list (qv 7)) qa_nil)))) qa_nil))) (qss_cons (qs_for .never rfl (qi_it (qv 4)) (qg_name (i := 7) scLarecountsright.nd rfl (by first | exact Or.inl rfl | exact Or.inr rfl)) (qss_one (qs_lock (qs_for .never rfl (qi_keys (qv 7)) (qg_name (i := 8) scLarecountsright.nd rfl (by first | exact Or.inl rfl | exact Or.inr rfl)) (qss_one (qs_asg (qe_op od_add (qe_bm PySem.F.plainAttrs_dict PySem.F.slot_dict_get rfl (mtd_get (room_u hr)) (qv 5) (qa_cons (qe_ix (room_u hr) (qe_ix (room_u hr) (qv 1) (qv 8) (fun _ _ => rfl)) qe_int (fun _ _ => rfl)) (qa_cons qe_int qa_nil))) (qe_ix (room_u hr) (qv 7) (qv 8) (fun _ _ => rfl))) (qg_sub (room_u hr) (qv 5) (qe_ix (room_u hr) (qe_ix (room_u hr) (qv 1) (qv 8) (fun _ _ => rfl)) qe_int (fun _ _ => rfl)) (fun _ => rfl)))))))) (qss_cons (qs_set (i := 9) scLarecountsright.nd rfl (by first | exact Or.inl rfl | exact Or.inr rfl) (qe_callTy cd_tuple rfl gs.tuple rfl (qa_cons (qe_callB (cd_sorted (room_u hr)) rfl gs.sorted rfl (qa_cons (qe_listItems rfl (qv 5) rfl gs.list) qa_nil)) qa_nil))) (qss_cons (qs_set (i := 10) scLarecountsright.nd rfl (by first | exact Or.inl rfl | exact Or.inr rfl) (qe_lst (qa_cons (qe_call Glevelcounts hr rfl glevelcounts Flevelcounts.kp blevelcounts .nil (fun _ => rfl) (qa_cons (qv 2) (qa_cons (qv 3) qa_nil))) (qa_cons (qe_callK0 Glevelcounts hr rfl glevelcounts Flevelcounts.kp klevelcounts rels_two (qk_cons (qv 3) (qk_cons (qv 2) qk_nil))) qa_nil)))) (qss_cons (qs_if (PW.pt (qw_or (qt_not (qt_val (qe_call GLsame (hr.mono (by decide)) rfl gLsame FLsame.kp bLsame .nil (fun _ => rfl) (qa_cons (qv 10) (qa_cons (qe_lst (qa_cons (qv 6) (qa_cons (qv 6) qa_nil))) qa_nil))))) (qw_or1 (qt_cmp (od_ne (room_u hr)) (qe_callB (cd_sumA rfl) rfl gs.sum rfl (qa_cons (qv 6) qa_nil)) (qe_callB (cd_sumA rfl) rfl gs.sum rfl (qa_cons (qe_listV rfl rfl gs.list (qv 5)) qa_nil)) rfl)))) (qss_one (qs_ret qe_bl)) qss_nil) (qss_one (qs_ret (qe_call GLsame (hr.mono (by decide)) rfl gLsame FLsame.kp bLsame .nil (fun _ => rfl) (qa_cons (qe_lst (qa_cons (qe_call Gtagcounts hr rfl gtagcounts Ftagcounts.kp btagcounts .nil (fun _ => rfl) (qa_cons (qv 2) (qa_cons (qv 3) qa_nil))) (qa_cons (qe_callK0 Gtagcounts hr rfl gtagcounts Ftagcounts.kp ktagcounts rels_two (qk_cons (qv 3) (qk_cons (qv 2) qk_nil))) qa_nil))) (qa_cons (qe_lst (qa_cons (qv 9) (qa_cons (qv 9) qa_nil))) qa_nil))))))))))))) rd
abbrev NLrowat : List Str := ["rows", "path", "at", "k"]
theorem scLrowat : FnScope NLrowat ["rows", "path"] (defScope (top 32)) := ⟨rfl, rfl, rfl, by decide +kernel, rfl, by decide +kernel, by decide +kernel⟩
def tLrowat : TSd := (dSeq (dAsg (dC (.int 0)) (dName 2)) (dSeq (dFor (dIt (dVar 1)) (dName 3) (dAsg (dOp rIx (dOp rIx (dOp rIx (dVar 0) (dVar 2)) (dC (.int 1))) (dVar 3)) (dName 2))) (dRet (dVar 2))))
theorem okLrowat (gs : Gs mg) (F : FnP K "_law_row_at" (top 32) f fd) {S : SpD} (len : ∀ ds G q, S ds G q → ds.length = 2)
    (rd : ∀ ds G q, S ds G q → tLrowat { nx := fun _ G' => fin (q .non) G', rt := fun d G' => fin (q d) G' } (startD NLrowat ds) G) : FnOk P w K mg base CX0 1 f fd ["rows", "path"] (liftSp ⟨K, P, w⟩ S) := by
  exact okD F scLrowat len (tLrowat) (fun cdv A outer s H E hr => PSs.nox (qss_cons (qs_set (i := 2) scLrowat.nd rfl (by first | exact Or.inl rfl | exact Or.inr rfl) qe_int) (qss_cons (qs_for .never rfl (qi_it (qv 1)) (qg_name (i := 3) scLrowat.nd rfl (by first | exact Or.inl rfl | exact Or.inr rfl)) (qss_one (qs_set (i := 2) scLrowat.nd rfl (by first | exact Or.inl rfl | exact Or.inr rfl) (qe_ix (room_u hr) (qe_ix (room_u hr) (qe_ix (room_u hr) (qv 0) (qv 2) (fun _ _ => rfl)) qe_int (fun _ _ => rfl)) (qv 3) (fun _ _ => rfl))))) (qss_one (qs_ret (qv 2)))))) rd
end
end DL.K81
/-! P1: the first promises of k81's defs and the proofs that the readings keep them. -/
namespace DL.K81
open PySem PySem.Spec PyProof.Rows L2 DL
section
theorem ev_eqStr {x y : Str} {n : Bool} {G : Gp} {q : QD} (h : q (.bl (xor n (decide (x = y)))) G) : rEqv n (.str x) (.str y) G q := by
  have e : atomEq (.str x) (.str y) = some (decide (x = y)) := by
    show (if scal (.str x) (.str y) = true then some (decide (V.str x = V.str y)) else none) = _
    have hs : scal (.str x) (.str y) = true := rfl
    rw [if_pos hs]
    congr 1
    by_cases hxy : x = y
    · rw [decide_eq_true hxy, decide_eq_true (congrArg V.str hxy)]
    · rw [decide_eq_false hxy, decide_eq_false (fun h => hxy (V.str.inj h))]
  unfold rEqv
  rw [e]
  exact h
/-- _law_fields: no fields of a free cell, a cons row's fields -/
def SLfields : SpD := fun ds G q => ∃ t x, ds = [.tup [.str t, x]] ∧ q (if t = "?" then .tup [] else x) G
theorem rdLfields (ds : List D) (G : Gp) (q : QD) (h : SLfields ds G q) : tLfields { nx := fun _ G' => fin (q .non) G', rt := fun d G' => fin (q d) G' } (startD NLfields ds) G := by
  obtain ⟨t, x, rfl, h⟩ := h
  show rEqv false (.str t) (.str "?") G (isB fun c G1 => if c = true then _ else _)
  refine ev_eqStr (x := t) (y := "?") ?_
  show (if xor false (decide (t = "?")) = true then _ else _)
  by_cases ht : t = "?"
  · rw [if_pos ht] at h
    rw [decide_eq_true ht]
    exact ⟨by decide, fin.of h⟩
  · rw [if_neg ht] at h
    rw [decide_eq_false ht]
    exact fin.of h
/-- _law_label -/
def SLlabel : SpD := fun ds G q => ∃ t x, ds = [.tup [.str t, x]] ∧ t ≠ "?" ∧ q (.str t) G
theorem rdLlabel (ds : List D) (G : Gp) (q : QD) (h : SLlabel ds G q) : tLlabel { nx := fun _ G' => fin (q .non) G', rt := fun d G' => fin (q d) G' } (startD NLlabel ds) G := by
  obtain ⟨t, x, rfl, ht, h⟩ := h
  show rEqv false (.str t) (.str "?") G (isB fun c G1 => if c = true then _ else _)
  refine ev_eqStr (x := t) (y := "?") ?_
  show (if xor false (decide (t = "?")) = true then _ else _)
  rw [decide_eq_false ht]
  exact fin.of h
end
end DL.K81
/-! P2: words to run a reading by hand: one lemma a rule; a def that looks a path up. -/
namespace DL.K81
open PySem PySem.Spec PyProof.Rows L2 DL
section
variable {G : Gp} {q : QD} {a : Addr} {kvs : List (D × D)} {e v : D}
theorem ev_ixDic (h : G a = some (.dic kvs)) (f : fits kvs e = true) (g : dget kvs e = some v) (k : q v G) : rIx (.ref a) e G q := by
  show (match G a with
    | some (.lst ds) => isI e fun i => optK (atI ds i) fun v => q v G
    | some (.rol ds) => isI e fun i => optK (atI ds i) fun v => q v G
    | some (.dic kvs) => fits kvs e = true ∧ optK (dget kvs e) fun v => q v G
    | some (.rdc kvs) => fits kvs e = true ∧ optK (dget kvs e) fun v => q v G
    | _ => False)
  rw [h]
  refine ⟨f, ?_⟩
  rw [g]
  exact k
theorem ev_setDic {k : Gp → Prop} (h : G a = some (.dic kvs)) (f : fits kvs e = true) (l : kvs.length < sizeLine) (q : k (gup G a (.dic (dput kvs e v)))) : rSet (.ref a) e v G k := by
  show (match G a with
    | some (.lst ds) => isI e fun i => optK (ixN ds.length i) fun j => k (gup G a (.lst (ds.set j v)))
    | some (.dic kvs) => fits kvs e = true ∧ kvs.length < sizeLine ∧ k (gup G a (.dic (dput kvs e v)))
    | _ => False)
  rw [h]
  exact ⟨f, l, q⟩
theorem ev_ixTup {ds : List D} {i : Nat} (h : ds[i]? = some v) (hs : atI ds (i : Nat) = some v) (k : q v G) : rIx (.tup ds) (.int (i : Nat)) G q := by
  show optK (atI ds (i : Nat)) fun v => q v G
  rw [hs]
  exact k
/-- the deck's pairs -/
def deckK (c : Addr) (m n : Int) : List (D × D) := [(.str "cells", .ref c), (.str "mixed", .int m), (.str "draws", .int n)]
theorem deck_draws (c : Addr) (m n : Int) : dget (deckK c m n) (.str "draws") = some (.int n) := by rfl
theorem deck_mixed (c : Addr) (m n : Int) : dget (deckK c m n) (.str "mixed") = some (.int m) := by rfl
theorem deck_cells (c : Addr) (m n : Int) : dget (deckK c m n) (.str "cells") = some (.ref c) := by rfl
theorem deck_fits (c : Addr) (m n : Int) (x : Str) : fits (deckK c m n) (.str x) = true := by rfl
theorem deck_put (c : Addr) (m n k : Int) : dput (deckK c m n) (.str "draws") (.int k) = deckK c m k := by rfl
end
end DL.K81
/-! P3: what _law_draw does: some number below many, the deck's count one more, its cells no more than before. -/
namespace DL.K81
open PySem PySem.Spec PyProof.Rows L2 DL
section
variable {G : Gp}
theorem ev_mul {i j : Int} {q : QD} (c : CMul i j) (k : q (.int (i * j)) G) : rMul (.int i) (.int j) G q := ⟨c, k⟩
theorem gup_id {c : Addr} {m : MO} (h : G c = some m) : gup G c m = G := by
  funext b
  by_cases hb : b = c
  · rw [hb, gup_same, h]
  · rw [gup_ne hb]
def SLdraw : SpD := fun ds G q => ∃ (a c : Addr) (m n many : Int) (zs : List Int), ds = [.ref a, .int many] ∧ a ≠ c ∧ G a = some (.dic (deckK c m n)) ∧ G c = some (.lst (zs.map .int)) ∧ zs.length ≤ 63 ∧ 0 < many ∧ many < 2 ^ 60 ∧
  ∀ (r : Int) (zs' : List Int), 0 ≤ r → r < many → zs'.length ≤ zs.length → q (.int r) (gup (gup G a (.dic (deckK c m (n + 1)))) c (.lst (zs'.map .int)))

theorem dats_ints : ∀ zs : List Int, dats (zs.map D.int) = some (zs.map PyData.int)
  | [] => rfl
  | z :: r => by
    show (match dat (.int z), dats (r.map D.int) with | some p, some ps => some (p :: ps) | _, _ => none) = _
    rw [dats_ints r]
    rfl
theorem datG_ints {G : Gp} {c : Addr} {zs : List Int} (h : G c = some (.lst (zs.map .int))) : datG G (.ref c) = some (.list (zs.map .int)) := by
  show (match G c with | some (.lst ds) => (dats ds).map PyData.list | some (.rol ds) => (dats ds).map PyData.list | _ => none) = _
  rw [h]
  show (dats (zs.map D.int)).map PyData.list = _
  rw [dats_ints]
  rfl
/-- the last four rows: from a number, some number below many -/
theorem draw_tail {E : Ed} {a c : Addr} {m n many x : Int} {σ3 : Option D} {G : Gp} (ha : G a = some (.dic (deckK c m n))) (hn : CMul 53668 n) (hm : 0 < many) (k : ∀ r : Int, 0 ≤ r → r < many → E.rt (.int r) G) :
    (dSeq (dAsg (dOp rModI (dCB rInt (dCons (dOp rAdd (dOp rMul (dVar 2) (dC (.int 40014))) (dC (.int 91))) dNil)) (dC (.int 2147483563))) (dName 2)) (dSeq (dAsg (dOp rModI (dCB rInt (dCons (dOp rAdd (dOp rAdd (dOp rMul (dVar 2) (dVar 2)) (dOp rMul (dC (.int 53668)) (dOp rIx (dVar 0) (dC (.str "draws"))))) (dC (.int 17))) dNil)) (dC (.int 2147483399))) (dName 2)) (dSeq (dAsg (dOp rModI (dCB rInt (dCons (dOp rMul (dVar 2) (dC (.int 40692))) dNil)) (dC (.int 2147483647))) (dName 2)) (dRet (dOp rModI (dCB rInt (dCons (dOp rDivW (dVar 2) (dC (.int 64))) dNil)) (dVar 1)))))) E [some (.ref a), some (.int many), some (.int x), σ3] G := by
  refine ⟨.inr ⟨by decide, by decide⟩, (by decide : (0 : Int) < 2147483563), ?_⟩
  have b1 := Int.emod_nonneg (x * 40014 + 91) (by decide : (2147483563 : Int) ≠ 0)
  have b2 := Int.emod_lt_of_pos (x * 40014 + 91) (by decide : (0 : Int) < 2147483563)
  have hb : CMul ((x * 40014 + 91) % 2147483563) ((x * 40014 + 91) % 2147483563) := .inl ⟨by omega, by omega⟩
  refine ⟨hb, ?_⟩
  refine ev_ixDic (q := fun d G1 => rMul (.int 53668) d G1 _) ha (deck_fits ..) (deck_draws ..) ?_
  refine ⟨hn, (by decide : (0 : Int) < 2147483399), ?_⟩
  refine ⟨.inr ⟨by decide, by decide⟩, (by decide : (0 : Int) < 2147483647), ?_⟩
  refine ⟨⟨by decide, by decide⟩, hm, ?_⟩
  exact k _ (Int.emod_nonneg _ (by omega)) (Int.emod_lt_of_pos _ hm)
end
end DL.K81
/-! P4: what _law_draw does, whole. -/
namespace DL.K81
open PySem PySem.Spec PyProof.Rows L2 DL
section
theorem ints_lay : ∀ zs : List Int, PyData.canLayAll0 (zs.map PyData.int) = true
  | [] => by simp [PyData.canLayAll0]
  | z :: zs => by simp [PyData.canLayAll0, PyData.canLay0, ints_lay zs]
theorem ints_depth : ∀ zs : List Int, PyData.depthAll (zs.map PyData.int) ≤ 0
  | [] => by simp [PyData.depthAll]
  | z :: zs => by
    have h1 := ints_depth zs
    simp only [List.map_cons, PyData.depthAll, PyData.depth]
    omega
theorem ints_shaped (zs : List Int) : SeqAt.shaped (.list (zs.map .int)) = true := by
  have h1 := ints_depth zs
  have h2 : PyData.depth (.list (zs.map .int)) ≤ 64 := by
    simp only [PyData.depth]
    omega
  show (PyData.canLay0 (.list (zs.map .int)) && decide (PyData.depth (.list (zs.map .int)) ≤ 64)) = true
  rw [Bool.and_eq_true]
  exact ⟨by simp only [PyData.canLay0]; exact ints_lay zs, decide_eq_true h2⟩
/-- zs != [] -/
theorem ev_neNil {G : Gp} {c p : Addr} {zs : List Int} {q : QD} (hc : G c = some (.lst (zs.map .int))) (hp : G p = some (.lst [])) (k : q (.bl (!zs.isEmpty)) G) : rEqv true (.ref c) (.ref p) G q := by
  have e1 := datG_ints (G := G) hc
  have e2 : datG G (.ref p) = some (.list []) := datG_ints (zs := []) hp
  have e0 : atomEq (.ref c) (.ref p) = none := rfl
  have e3 : PyData.eqv (.list (zs.map .int)) (.list []) = zs.isEmpty := by
    cases zs <;> simp [PyData.eqv, PyData.eqvAll]
  unfold rEqv
  rw [e0, e1, e2]
  refine ⟨ints_shaped zs, ints_shaped [], ?_⟩
  rw [e3]
  simpa using k
end
end DL.K81
/-! P5: _law_draw keeps its promise. -/
namespace DL.K81
open PySem PySem.Spec PyProof.Rows L2 DL
section
theorem ev_pop {G : Gp} {c : Addr} {ds : List D} {z : D} {q : QD} (hc : G c = some (.lst ds)) (hz : ds.getLast? = some z) (k : q z (gup G c (.lst ds.dropLast))) : rPopD (.ref c) [] G q := by
  refine ⟨rfl, ?_⟩
  show (match G c with | some (.lst ds) => optK ds.getLast? fun z => q z (gup G c (.lst ds.dropLast)) | _ => False)
  rw [hc]
  show optK ds.getLast? _
  rw [hz]
  exact k
theorem ev_app {G : Gp} {c : Addr} {ds : List D} {e : D} {q : QD} (hc : G c = some (.lst ds)) (hl : ds.length < sizeLine) (k : q .non (gup G c (.lst (ds ++ [e])))) : rAppendD (.ref c) [e] G q := by
  show (match G c with | some (.lst ds) => ds.length < sizeLine ∧ q .non (gup G c (.lst (ds ++ [e]))) | _ => False)
  rw [hc]
  exact ⟨hl, k⟩
theorem lst_ty {G : Gp} {c : Addr} {ds : List D} (hc : G c = some (.lst ds)) : tyD "list" (.ref c) G := by
  show (match G c with
    | some (.lst _) => "list" = "list"
    | some (.rol _) => "list" = "list"
    | some (.dic _) => "list" = "dict"
    | some (.rdc _) => "list" = "dict"
    | _ => False)
  rw [hc]
theorem ev_add {G : Gp} {i j : Int} {q : QD} (k : q (.int (i + j)) G) : rAdd (.int i) (.int j) G q := k
theorem div_ok {z many : Int} (h : 0 < many) (h2 : many < 2 ^ 60) : CDivW z (if many > 2 then many else 2) := by
  have b : 0 < (if many > 2 then many else 2) ∧ (if many > 2 then many else 2) < 2 ^ 61 := by split <;> constructor <;> omega
  generalize (if many > 2 then many else 2) = j at b
  refine ⟨b.1, ?_⟩
  have hj : j.natAbs ≠ 0 := by omega
  have hlt : j.natAbs < 2 ^ 61 := by omega
  exact Nat.lt_trans ((Nat.log2_lt hj).2 hlt) (by decide)
theorem rdLdraw (ds : List D) (G : Gp) (q : QD) (h : SLdraw ds G q) : tLdraw { nx := fun _ G' => fin (q .non) G', rt := fun d G' => fin (q d) G' } (startD NLdraw ds) G := by
  obtain ⟨a, c, m, n, many, zs, rfl, hac, ha, hc, hl, hm, hm2, k⟩ := h
  unfold tLdraw dSeq dAsg dOp dVar dC dSub dIf dTest dName
  show rIx (.ref a) (.str "draws") G _
  refine ev_ixDic ha (deck_fits ..) (deck_draws ..) ?_
  show rSet (.ref a) (.str "draws") (.int (n + 1)) G _
  refine ev_setDic ha (deck_fits ..) (show 3 < sizeLine by decide) ?_
  rw [deck_put]
  have ha1 : gup G a (.dic (deckK c m (n + 1))) a = some (.dic (deckK c m (n + 1))) := gup_same
  have hc1 : gup G a (.dic (deckK c m (n + 1))) c = some (.lst (zs.map .int)) := by rw [gup_ne (Ne.symm hac)]; exact hc
  generalize gup G a (.dic (deckK c m (n + 1))) = G1 at ha1 hc1 k ⊢
  show rIx (.ref a) (.str "mixed") G1 _
  refine ev_ixDic ha1 (deck_fits ..) (deck_mixed ..) ?_
  show rIx (.ref a) (.str "draws") G1 _
  refine ev_ixDic ha1 (deck_fits ..) (deck_draws ..) ?_
  refine ⟨.inl ⟨by decide, by decide⟩, ?_⟩
  show rAdd (.int m) (.int (62089 * (n + 1))) G1 _
  refine ev_add ?_
  dsimp only
  show rIx (.ref a) (.str "cells") G1 _
  refine ev_ixDic ha1 (deck_fits ..) (deck_cells ..) ?_
  refine ⟨Nat.zero_le _, fun p hp => ?_⟩
  have hpc : c ≠ p := by rintro rfl; rw [hp] at hc1; cases hc1
  have hpa : a ≠ p := by rintro rfl; rw [hp] at ha1; cases ha1
  have ha2 : gup G1 p (.lst []) a = some (.dic (deckK c m (n + 1))) := by rw [gup_ne hpa]; exact ha1
  have hc2 : gup G1 p (.lst []) c = some (.lst (zs.map .int)) := by rw [gup_ne hpc]; exact hc1
  have s2 : Sub G1 (gup G1 p (.lst [])) := Sub.new hp
  have hp2 : gup G1 p (.lst []) p = some (.lst []) := gup_same
  generalize gup G1 p (.lst []) = G2 at ha2 hc2 s2 hp2 ⊢
  show rEqv true (.ref c) (.ref p) G2 _
  refine ev_neNil hc2 hp2 ?_
  rcases List.eq_nil_or_concat zs with rfl | ⟨ys, z, hz⟩
  · refine draw_tail (x := m + 62089 * (n + 1)) (σ3 := none) (E := { nx := fun _ G' => fin (q .non) G', rt := fun d G' => fin (q d) G' }) ha2 (.inl ⟨by decide, by decide⟩) hm fun r h0 h1 => ?_
    refine ⟨G1, s2, ?_⟩
    have := k r [] h0 h1 (Nat.le_refl _)
    rw [gup_id hc1] at this
    exact this
  · have e0 : (!zs.isEmpty) = true := by rw [hz]; cases ys <;> simp
    rw [e0]
    have em : zs.map D.int = ys.map D.int ++ [.int z] := by rw [hz]; simp
    rw [em] at hc2
    unfold isB dBM dCB dDrop dRet dCons dNil
    dsimp only
    rw [if_pos rfl]
    show rIx (.ref a) (.str "cells") G2 _
    refine ev_ixDic ha2 (deck_fits ..) (deck_cells ..) ?_
    refine ⟨lst_ty hc2, ?_⟩
    show rPopD (.ref c) [] G2 _
    refine ev_pop hc2 (by rw [List.getLast?_append]; rfl) ?_
    rw [List.dropLast_concat]
    have ha3 : gup G2 c (.lst (ys.map D.int)) a = some (.dic (deckK c m (n + 1))) := by rw [gup_ne hac]; exact ha2
    have hc3 : gup G2 c (.lst (ys.map D.int)) c = some (.lst (ys.map D.int)) := gup_same
    have s3 : ∀ l, Sub (gup G1 c l) (gup (gup G2 c (.lst (ys.map D.int))) c l) := fun l => by rw [gup_gup]; exact Sub.gup s2
    have s4 : Sub (gup G1 c (.lst (ys.map D.int))) (gup G2 c (.lst (ys.map D.int))) := Sub.gup s2
    generalize gup G2 c (.lst (ys.map D.int)) = G3 at ha3 hc3 s3 s4 ⊢
    refine ⟨⟨by decide, by decide, by decide⟩, ?_⟩
    dsimp only
    show (if decide ((10 : Int) ^ (18 : Int).toNat ≤ z) = true then _ else _)
    have kl : ys.length + 1 ≤ zs.length := by rw [hz]; simp
    by_cases hb : (decide ((10 : Int) ^ (18 : Int).toNat ≤ z) = true)
    · rw [if_pos hb]
      show rIx (.ref a) (.str "cells") G3 _
      refine ev_ixDic ha3 (deck_fits ..) (deck_cells ..) ?_
      refine ⟨lst_ty hc3, ?_⟩
      refine ⟨div_ok hm hm2, ?_⟩
      show rAppendD (.ref c) [.int (z / (if many > 2 then many else 2))] G3 _
      refine ev_app hc3 (by rw [List.length_map]; exact Nat.lt_of_lt_of_le (show ys.length < 64 by omega) (by decide)) ?_
      refine ⟨hm, ?_⟩
      have := k (z % many) (ys ++ [z / (if many > 2 then many else 2)]) (Int.emod_nonneg _ (by omega)) (Int.emod_lt_of_pos _ hm) (by simpa using kl)
      rw [List.map_append] at this
      exact ⟨_, s3 _, this⟩
    · rw [if_neg hb]
      refine ⟨(by decide : (0 : Int) < 2147483629), ?_⟩
      refine draw_tail (x := m + 62089 * (n + 1) + z % 2147483629) (σ3 := some (.int z)) (E := { nx := fun _ G' => fin (q .non) G', rt := fun d G' => fin (q d) G' }) ha3 (.inl ⟨by decide, by decide⟩) hm fun r h0 h1 => ?_
      exact ⟨_, s4, k r ys h0 h1 (by omega)⟩
end
end DL.K81
/-! R2: readings and derivations of defs of k81's text; printed by gen.py. -/
namespace DL.K81
open PySem PySem.Spec PyProof.Rows L2 DL
section
variable {P : Program} {w : World} {K : PySem.W.Frag} {mg : Str → Option Value} {base : Heap} {f : Addr} {fd : FuncData}
abbrev Nreached : List Str := ["rows", "root", "numbers", "waiting", "row"]
theorem screached : FnScope Nreached ["rows", "root"] (defScope (top 1)) := ⟨rfl, rfl, rfl, by decide +kernel, rfl, by decide +kernel, by decide +kernel⟩
def treached : TSd := (dSeq (dPar 2 3 (dCons dNewD (dCons (dLst (dCons (dVar 1) dNil)) dNil))) (dSeq (dWhile (dTest (dOp (rEqv true) (dVar 3) (dLst dNil))) (dSeq (dAsg (dBM "list" rPopD (dVar 3) dNil) (dName 4)) (dIf (dTest (dOp (rInDic true) (dVar 4) (dVar 2))) (dSeq (dAsg (dCB rLen (dCons (dVar 2) dNil)) (dSub (dVar 2) (dVar 4))) (dDrop (dBM "list" rExtendD (dVar 3) (dCons (dRev (dCB rList (dCons (dOp rIx (dOp rIx (dVar 0) (dVar 4)) (dC (.int 1))) dNil))) dNil)))) dNext))) (dRet (dCB rList (dCons (dVar 2) dNil)))))
theorem okreached (gs : Gs mg) (F : FnP K "reached" (top 1) f fd) {S : SpD} (len : ∀ ds G q, S ds G q → ds.length = 2)
    (rd : ∀ ds G q, S ds G q → treached { nx := fun _ G' => fin (q .non) G', rt := fun d G' => fin (q d) G' } (startD Nreached ds) G) : FnOk P w K mg base CX0 1 f fd ["rows", "root"] (liftSp ⟨K, P, w⟩ S) := by
  exact okD F screached len (treached) (fun cdv A outer s H E hr => PSs.nox (qss_cons (qs_par (i := 2) (j := 3) rfl screached.nd rfl rfl (by decide) rfl rfl (qa_cons qe_dnew (qa_cons (qe_lst (qa_cons (qv 1) qa_nil)) qa_nil)) rfl) (qss_cons (qs_while .never (qt_cmp (od_ne (room_u hr)) (qv 3) (qe_lst qa_nil) rfl) (qss_cons (qs_set (i := 4) screached.nd rfl (by first | exact Or.inl rfl | exact Or.inr rfl) (qe_bm0 PySem.F.plainAttrs_list PySem.F.slot_list_pop rfl mtd_pop (qv 3))) (qss_one (qs_if (qt_cmp (op_notInDic (room_u hr)) (qv 4) (qv 2) rfl) (qss_cons (qs_asg (qe_callB cd_len rfl gs.len rfl (qa_cons (qv 2) qa_nil)) (qg_sub (room_u hr) (qv 2) (qv 4) (fun _ => rfl))) (qss_one (qs_expr (qe_bm PySem.F.plainAttrs_list PySem.F.slot_list_extend rfl mtd_extend (qv 3) (qa_cons (qe_rev (qe_callTy (cd_list rfl) rfl gs.list rfl (qa_cons (qe_ix (room_u hr) (qe_ix (room_u hr) (qv 0) (qv 4) (fun _ _ => rfl)) qe_int (fun _ _ => rfl)) qa_nil))) qa_nil))))) qss_nil)))) (qss_one (qs_ret (qe_callTy (cd_list rfl) rfl gs.list rfl (qa_cons (qv 2) qa_nil))))))) rd
abbrev Nnumbered : List Str := ["keys", "names", "numbers", "row", "key"]
theorem scnumbered : FnScope Nnumbered ["keys"] (defScope (top 2)) := ⟨rfl, rfl, rfl, by decide +kernel, rfl, by decide +kernel, by decide +kernel⟩
def tnumbered : TSd := (dSeq (dAsg dNewD (dName 1)) (dSeq (dLock (dAsg (dDc (dItems (dVar 0)) (.tp [3, 4]) dYes (dVar 3) (dBM "dict" rSetdef (dVar 1) (dCons (dVar 4) (dCons (dCB rLen (dCons (dVar 1) dNil)) dNil))) [3, 4]) (dName 2))) (dRet (dTup (dCons (dVar 2) (dCons (dCB rLen (dCons (dVar 1) dNil)) dNil))))))
theorem oknumbered (gs : Gs mg) (F : FnP K "numbered" (top 2) f fd) {S : SpD} (len : ∀ ds G q, S ds G q → ds.length = 1)
    (rd : ∀ ds G q, S ds G q → tnumbered { nx := fun _ G' => fin (q .non) G', rt := fun d G' => fin (q d) G' } (startD Nnumbered ds) G) : FnOk P w K mg base CX0 1 f fd ["keys"] (liftSp ⟨K, P, w⟩ S) := by
  exact okD F scnumbered len (tnumbered) (fun cdv A outer s H E hr => PSs.nox (qss_cons (qs_set (i := 1) scnumbered.nd rfl (by first | exact Or.inl rfl | exact Or.inr rfl) qe_dnew) (qss_cons (qs_lock (qs_setDc (i := 2) (own := [("row", 3), ("key", 4)]) rfl scnumbered.nd rfl rfl (sw_dc rfl rfl rfl (by decide +kernel)) (qi_items (qv 0)) (blkOk_by (N := Nnumbered) (sc := defScope (top 2)) (by decide +kernel)) (by decide) (fun _ _ _ _ _ => (pg_tup rfl (pgs_cons (pg_name (i := 3) scnumbered.nd rfl (by first | exact Or.inl rfl | exact Or.inr rfl)) (pgs_cons (pg_name (i := 4) scnumbered.nd rfl (by first | exact Or.inl rfl | exact Or.inr rfl)) pgs_nil)) rfl rfl)) (fun _ _ _ _ _ => qts_nil) (fun _ _ _ _ _ => (qv 3)) (fun _ _ _ _ _ => (qe_bm PySem.F.plainAttrs_dict PySem.F.slot_dict_setdefault rfl (mtd_setdefault (room_u hr)) (qv 1) (qa_cons (qv 4) (qa_cons (qe_callB cd_len rfl gs.len rfl (qa_cons (qv 1) qa_nil)) qa_nil)))))) (qss_one (qs_ret (qe_tup (qa_cons (qv 2) (qa_cons (qe_callB cd_len rfl gs.len rfl (qa_cons (qv 1) qa_nil)) qa_nil)))))))) rd
abbrev Nrenumbered : List Str := ["rows", "root", "order", "numbers", "number", "row", "field"]
theorem screnumbered : FnScope Nrenumbered ["rows", "root"] (defScope (top 4)) := ⟨rfl, rfl, rfl, by decide +kernel, rfl, by decide +kernel, by decide +kernel⟩
def trenumbered (Sreached : SpD) : TSd := (dSeq (dAsg (dCall Sreached [] (dCons (dVar 0) (dCons (dVar 1) dNil))) (dName 2)) (dSeq (dAsg (dDc (dEnum (dCons (dVar 2) dNil)) (.tp [4, 5]) dYes (dVar 5) (dVar 4) [4, 5]) (dName 3)) (dRet (dCB rTuple (dCons (dLc (dIt (dVar 2)) (.nm 5) dYes (dTup (dCons (dOp rIx (dOp rIx (dVar 0) (dVar 5)) (dC (.int 0))) (dCons (dCB rTuple (dCons (dLc (dIt (dOp rIx (dOp rIx (dVar 0) (dVar 5)) (dC (.int 1)))) (.nm 6) dYes (dOp rIx (dVar 3) (dVar 6)) [6]) dNil)) dNil))) [5]) dNil)))))
theorem okrenumbered (gs : Gs mg) (F : FnP K "renumbered" (top 4) f fd) {areached : Addr} {dreached : FuncData} {Sreached : SpD} (Freached : FnP K "reached" (top 1) areached dreached) (Greached : FnOk P w K mg base CX0 1 areached dreached ["rows", "root"] (liftSp ⟨K, P, w⟩ Sreached)) (greached : mg "reached" = some (.ref areached)) {S : SpD} (len : ∀ ds G q, S ds G q → ds.length = 2)
    (rd : ∀ ds G q, S ds G q → trenumbered Sreached { nx := fun _ G' => fin (q .non) G', rt := fun d G' => fin (q d) G' } (startD Nrenumbered ds) G) : FnOk P w K mg base CX0 2 f fd ["rows", "root"] (liftSp ⟨K, P, w⟩ S) := by
  have breached : Binds K dreached ["rows", "root"] [] := Freached.bindsN fun _ _ _ _ _ _ us hl => match us, hl with | [_, _], _ => rfl
  exact okD F screnumbered len (trenumbered Sreached) (fun cdv A outer s H E hr => PSs.nox (qss_cons (qs_set (i := 2) screnumbered.nd rfl (by first | exact Or.inl rfl | exact Or.inr rfl) (qe_call Greached hr rfl greached Freached.kp breached .nil (fun _ => rfl) (qa_cons (qv 0) (qa_cons (qv 1) qa_nil)))) (qss_cons (qs_set (i := 3) screnumbered.nd rfl (by first | exact Or.inl rfl | exact Or.inr rfl) (qe_dc (own := [("number", 4), ("row", 5)]) rfl screnumbered.nd (qi_enum rfl gs.enumerate (qa_cons (qv 2) qa_nil)) (blkOk_by (N := Nrenumbered) (sc := defScope (top 4)) (by decide +kernel)) (by decide) (fun _ _ _ _ _ => (pg_tup rfl (pgs_cons (pg_name (i := 4) screnumbered.nd rfl (by first | exact Or.inl rfl | exact Or.inr rfl)) (pgs_cons (pg_name (i := 5) screnumbered.nd rfl (by first | exact Or.inl rfl | exact Or.inr rfl)) pgs_nil)) rfl rfl)) (fun _ _ _ _ _ => qts_nil) (fun _ _ _ _ _ => (qv 5)) (fun _ _ _ _ _ => (qv 4)))) (qss_one (qs_ret (qe_callTy cd_tuple rfl gs.tuple rfl (qa_cons (qe_lc (own := [("row", 5)]) rfl screnumbered.nd (qi_it (qv 2)) (blkOk_by (N := Nrenumbered) (sc := defScope (top 4)) (by decide +kernel)) (by decide) (fun _ _ _ _ _ => (pg_name (i := 5) screnumbered.nd rfl (by first | exact Or.inl rfl | exact Or.inr rfl))) (fun _ _ _ _ _ => qts_nil) (fun _ _ _ _ _ => (qe_tup (qa_cons (qe_ix (room_u hr) (qe_ix (room_u hr) (qv 0) (qv 5) (fun _ _ => rfl)) qe_int (fun _ _ => rfl)) (qa_cons (qe_callTy cd_tuple rfl gs.tuple rfl (qa_cons (qe_lc (own := [("field", 6)]) rfl screnumbered.nd (qi_it (qe_ix (room_u hr) (qe_ix (room_u hr) (qv 0) (qv 5) (fun _ _ => rfl)) qe_int (fun _ _ => rfl))) (blkOk_by (by rfl)) (by decide) (fun _ _ _ _ _ => (pg_name (i := 6) screnumbered.nd rfl (by first | exact Or.inl rfl | exact Or.inr rfl))) (fun _ _ _ _ _ => qts_nil) (fun _ _ _ _ _ => (qe_ix (room_u hr) (qv 3) (qv 6) (fun _ _ => rfl)))) qa_nil)) qa_nil))))) qa_nil))))))) rd
abbrev Nclassesof : List Str := ["rows", "used", "classes", "count", "row", "before", "keys", "field"]
theorem scclassesof : FnScope Nclassesof ["rows", "used"] (defScope (top 3)) := ⟨rfl, rfl, rfl, by decide +kernel, rfl, by decide +kernel, by decide +kernel⟩
def tclassesof (Snumbered : SpD) : TSd := (dSeq (dAsg (dCall Snumbered [] (dCons (dDc (dIt (dVar 1)) (.nm 4) dYes (dVar 4) (dOp rIx (dOp rIx (dVar 0) (dVar 4)) (dC (.int 0))) [4]) dNil)) (dTupG 2 (dGcons (dName 2) (dGcons (dName 3) dGnil)))) (dSeq (dAsg (dC (.int 0)) (dName 5)) (dSeq (dWhile (dTest (dOp rLt (dVar 5) (dVar 3))) (dSeq (dAsg (dVar 3) (dName 5)) (dSeq (dAsg (dDc (dIt (dVar 1)) (.nm 4) dYes (dVar 4) (dTup (dCons (dOp rIx (dVar 2) (dVar 4)) (dStar (dLc (dIt (dOp rIx (dOp rIx (dVar 0) (dVar 4)) (dC (.int 1)))) (.nm 7) dYes (dOp rIx (dVar 2) (dVar 7)) [7]) dNil))) [4]) (dName 6)) (dAsg (dCall Snumbered [] (dCons (dVar 6) dNil)) (dTupG 2 (dGcons (dName 2) (dGcons (dName 3) dGnil))))))) (dRet (dVar 2)))))
theorem okclassesof (gs : Gs mg) (F : FnP K "classes_of" (top 3) f fd) {anumbered : Addr} {dnumbered : FuncData} {Snumbered : SpD} (Fnumbered : FnP K "numbered" (top 2) anumbered dnumbered) (Gnumbered : FnOk P w K mg base CX0 1 anumbered dnumbered ["keys"] (liftSp ⟨K, P, w⟩ Snumbered)) (gnumbered : mg "numbered" = some (.ref anumbered)) {S : SpD} (len : ∀ ds G q, S ds G q → ds.length = 2)
    (rd : ∀ ds G q, S ds G q → tclassesof Snumbered { nx := fun _ G' => fin (q .non) G', rt := fun d G' => fin (q d) G' } (startD Nclassesof ds) G) : FnOk P w K mg base CX0 2 f fd ["rows", "used"] (liftSp ⟨K, P, w⟩ S) := by
  have bnumbered : Binds K dnumbered ["keys"] [] := Fnumbered.bindsN fun _ _ _ _ _ _ us hl => match us, hl with | [_], _ => rfl
  exact okD F scclassesof len (tclassesof Snumbered) (fun cdv A outer s H E hr => PSs.nox (qss_cons (qs_asg (qe_call Gnumbered hr rfl gnumbered Fnumbered.kp bnumbered .nil (fun _ => rfl) (qa_cons (qe_dc (own := [("row", 4)]) rfl scclassesof.nd (qi_it (qv 1)) (blkOk_by (N := Nclassesof) (sc := defScope (top 3)) (by decide +kernel)) (by decide) (fun _ _ _ _ _ => (pg_name (i := 4) scclassesof.nd rfl (by first | exact Or.inl rfl | exact Or.inr rfl))) (fun _ _ _ _ _ => qts_nil) (fun _ _ _ _ _ => (qv 4)) (fun _ _ _ _ _ => (qe_ix (room_u hr) (qe_ix (room_u hr) (qv 0) (qv 4) (fun _ _ => rfl)) qe_int (fun _ _ => rfl)))) qa_nil)) (qg_tup rfl (qgs_cons (qg_name (i := 2) scclassesof.nd rfl (by first | exact Or.inl rfl | exact Or.inr rfl)) (qgs_cons (qg_name (i := 3) scclassesof.nd rfl (by first | exact Or.inl rfl | exact Or.inr rfl)) qgs_nil)))) (qss_cons (qs_set (i := 5) scclassesof.nd rfl (by first | exact Or.inl rfl | exact Or.inr rfl) qe_int) (qss_cons (qs_while .never (qt_cmp od_lt (qv 5) (qv 3) rfl) (qss_cons (qs_set (i := 5) scclassesof.nd rfl (by first | exact Or.inl rfl | exact Or.inr rfl) (qv 3)) (qss_cons (qs_setDc (i := 6) (own := [("row", 4)]) rfl scclassesof.nd rfl rfl (sw_dc rfl rfl rfl (by decide +kernel)) (qi_it (qv 1)) (blkOk_by (N := Nclassesof) (sc := defScope (top 3)) (by decide +kernel)) (by decide) (fun _ _ _ _ _ => (pg_name (i := 4) scclassesof.nd rfl (by first | exact Or.inl rfl | exact Or.inr rfl))) (fun _ _ _ _ _ => qts_nil) (fun _ _ _ _ _ => (qv 4)) (fun _ _ _ _ _ => (qe_tup (qa_cons (qe_ix (room_u hr) (qv 2) (qv 4) (fun _ _ => rfl)) (qa_star (qe_lc (own := [("field", 7)]) rfl scclassesof.nd (qi_it (qe_ix (room_u hr) (qe_ix (room_u hr) (qv 0) (qv 4) (fun _ _ => rfl)) qe_int (fun _ _ => rfl))) (blkOk_by (by rfl)) (by decide) (fun _ _ _ _ _ => (pg_name (i := 7) scclassesof.nd rfl (by first | exact Or.inl rfl | exact Or.inr rfl))) (fun _ _ _ _ _ => qts_nil) (fun _ _ _ _ _ => (qe_ix (room_u hr) (qv 2) (qv 7) (fun _ _ => rfl)))) qa_nil))))) (qss_one (qs_asg (qe_call Gnumbered hr rfl gnumbered Fnumbered.kp bnumbered .nil (fun _ => rfl) (qa_cons (qv 6) qa_nil)) (qg_tup rfl (qgs_cons (qg_name (i := 2) scclassesof.nd rfl (by first | exact Or.inl rfl | exact Or.inr rfl)) (qgs_cons (qg_name (i := 3) scclassesof.nd rfl (by first | exact Or.inl rfl | exact Or.inr rfl)) qgs_nil)))))))) (qss_one (qs_ret (qv 2))))))) rd
abbrev Nreduced : List Str := ["rows", "root", "used", "classes", "merged", "field", "row"]
theorem screduced : FnScope Nreduced ["rows", "root"] (defScope (top 5)) := ⟨rfl, rfl, rfl, by decide +kernel, rfl, by decide +kernel, by decide +kernel⟩
def treduced (Sreached : SpD) (Sclassesof : SpD) (Srenumbered : SpD) : TSd := (dSeq (dAsg (dCall Sreached [] (dCons (dVar 0) (dCons (dVar 1) dNil))) (dName 2)) (dSeq (dAsg (dCall Sclassesof [] (dCons (dVar 0) (dCons (dVar 2) dNil))) (dName 3)) (dSeq (dAsg (dDc (dIt (dVar 2)) (.nm 6) dYes (dOp rIx (dVar 3) (dVar 6)) (dTup (dCons (dOp rIx (dOp rIx (dVar 0) (dVar 6)) (dC (.int 0))) (dCons (dLc (dIt (dOp rIx (dOp rIx (dVar 0) (dVar 6)) (dC (.int 1)))) (.nm 5) dYes (dOp rIx (dVar 3) (dVar 5)) [5]) dNil))) [6]) (dName 4)) (dRet (dCall Srenumbered [] (dCons (dVar 4) (dCons (dOp rIx (dVar 3) (dVar 1)) dNil)))))))
theorem okreduced (gs : Gs mg) (F : FnP K "reduced" (top 5) f fd) {areached : Addr} {dreached : FuncData} {Sreached : SpD} (Freached : FnP K "reached" (top 1) areached dreached) (Greached : FnOk P w K mg base CX0 1 areached dreached ["rows", "root"] (liftSp ⟨K, P, w⟩ Sreached)) (greached : mg "reached" = some (.ref areached)) {aclassesof : Addr} {dclassesof : FuncData} {Sclassesof : SpD} (Fclassesof : FnP K "classes_of" (top 3) aclassesof dclassesof) (Gclassesof : FnOk P w K mg base CX0 2 aclassesof dclassesof ["rows", "used"] (liftSp ⟨K, P, w⟩ Sclassesof)) (gclassesof : mg "classes_of" = some (.ref aclassesof)) {arenumbered : Addr} {drenumbered : FuncData} {Srenumbered : SpD} (Frenumbered : FnP K "renumbered" (top 4) arenumbered drenumbered) (Grenumbered : FnOk P w K mg base CX0 2 arenumbered drenumbered ["rows", "root"] (liftSp ⟨K, P, w⟩ Srenumbered)) (grenumbered : mg "renumbered" = some (.ref arenumbered)) {S : SpD} (len : ∀ ds G q, S ds G q → ds.length = 2)
    (rd : ∀ ds G q, S ds G q → treduced Sreached Sclassesof Srenumbered { nx := fun _ G' => fin (q .non) G', rt := fun d G' => fin (q d) G' } (startD Nreduced ds) G) : FnOk P w K mg base CX0 3 f fd ["rows", "root"] (liftSp ⟨K, P, w⟩ S) := by
  have breached : Binds K dreached ["rows", "root"] [] := Freached.bindsN fun _ _ _ _ _ _ us hl => match us, hl with | [_, _], _ => rfl
  have bclassesof : Binds K dclassesof ["rows", "used"] [] := Fclassesof.bindsN fun _ _ _ _ _ _ us hl => match us, hl with | [_, _], _ => rfl
  have brenumbered : Binds K drenumbered ["rows", "root"] [] := Frenumbered.bindsN fun _ _ _ _ _ _ us hl => match us, hl with | [_, _], _ => rfl
  exact okD F screduced len (treduced Sreached Sclassesof Srenumbered) (fun cdv A outer s H E hr => PSs.nox (qss_cons (qs_set (i := 2) screduced.nd rfl (by first | exact Or.inl rfl | exact Or.inr rfl) (qe_call Greached (hr.mono (by decide)) rfl greached Freached.kp breached .nil (fun _ => rfl) (qa_cons (qv 0) (qa_cons (qv 1) qa_nil)))) (qss_cons (qs_set (i := 3) screduced.nd rfl (by first | exact Or.inl rfl | exact Or.inr rfl) (qe_call Gclassesof hr rfl gclassesof Fclassesof.kp bclassesof .nil (fun _ => rfl) (qa_cons (qv 0) (qa_cons (qv 2) qa_nil)))) (qss_cons (qs_setDc (i := 4) (own := [("row", 6)]) rfl screduced.nd rfl rfl (sw_dc rfl rfl rfl (by decide +kernel)) (qi_it (qv 2)) (blkOk_by (N := Nreduced) (sc := defScope (top 5)) (by decide +kernel)) (by decide) (fun _ _ _ _ _ => (pg_name (i := 6) screduced.nd rfl (by first | exact Or.inl rfl | exact Or.inr rfl))) (fun _ _ _ _ _ => qts_nil) (fun _ _ _ _ _ => (qe_ix (room_u hr) (qv 3) (qv 6) (fun _ _ => rfl))) (fun _ _ _ _ _ => (qe_tup (qa_cons (qe_ix (room_u hr) (qe_ix (room_u hr) (qv 0) (qv 6) (fun _ _ => rfl)) qe_int (fun _ _ => rfl)) (qa_cons (qe_lc (own := [("field", 5)]) rfl screduced.nd (qi_it (qe_ix (room_u hr) (qe_ix (room_u hr) (qv 0) (qv 6) (fun _ _ => rfl)) qe_int (fun _ _ => rfl))) (blkOk_by (by rfl)) (by decide) (fun _ _ _ _ _ => (pg_name (i := 5) screduced.nd rfl (by first | exact Or.inl rfl | exact Or.inr rfl))) (fun _ _ _ _ _ => qts_nil) (fun _ _ _ _ _ => (qe_ix (room_u hr) (qv 3) (qv 5) (fun _ _ => rfl)))) qa_nil))))) (qss_one (qs_ret (qe_call Grenumbered hr rfl grenumbered Frenumbered.kp brenumbered .nil (fun _ => rfl) (qa_cons (qv 4) (qa_cons (qe_ix (room_u hr) (qv 3) (qv 1) (fun _ _ => rfl)) qa_nil))))))))) rd
abbrev Nleastsheet : List Str := ["sheet"]
theorem scleastsheet : FnScope Nleastsheet ["sheet"] (defScope (top 7)) := ⟨rfl, rfl, rfl, by decide +kernel, rfl, by decide +kernel, by decide +kernel⟩
def tleastsheet (Sreduced : SpD) : TSd := (dRet (dCall Sreduced [] (dCons (dVar 0) (dCons (dC (.int 0)) dNil))))
theorem okleastsheet (gs : Gs mg) (F : FnP K "least_sheet" (top 7) f fd) {areduced : Addr} {dreduced : FuncData} {Sreduced : SpD} (Freduced : FnP K "reduced" (top 5) areduced dreduced) (Greduced : FnOk P w K mg base CX0 3 areduced dreduced ["rows", "root"] (liftSp ⟨K, P, w⟩ Sreduced)) (greduced : mg "reduced" = some (.ref areduced)) {S : SpD} (len : ∀ ds G q, S ds G q → ds.length = 1)
    (rd : ∀ ds G q, S ds G q → tleastsheet Sreduced { nx := fun _ G' => fin (q .non) G', rt := fun d G' => fin (q d) G' } (startD Nleastsheet ds) G) : FnOk P w K mg base CX0 4 f fd ["sheet"] (liftSp ⟨K, P, w⟩ S) := by
  have breduced : Binds K dreduced ["rows", "root"] [] := Freduced.bindsN fun _ _ _ _ _ _ us hl => match us, hl with | [_, _], _ => rfl
  exact okD F scleastsheet len (tleastsheet Sreduced) (fun cdv A outer s H E hr => PSs.nox (qss_one (qs_ret (qe_call Greduced hr rfl greduced Freduced.kp breduced .nil (fun _ => rfl) (qa_cons (qv 0) (qa_cons qe_int qa_nil)))))) rd
abbrev Nfirstpaths : List Str := ["sheet", "least", "paths", "order", "visited", "row", "field", "goal"]
theorem scfirstpaths : FnScope Nfirstpaths ["sheet"] (defScope (top 9)) := ⟨rfl, rfl, rfl, by decide +kernel, rfl, by decide +kernel, by decide +kernel⟩
def tfirstpaths (Sleastsheet : SpD) : TSd := (dSeq (dAsg (dCall Sleastsheet [] (dCons (dVar 0) dNil)) (dName 1)) (dSeq (dAsg (dTup (dCons (dDisp [((dC (.int 0)), (dTup dNil))]) (dCons (dLst (dCons (dC (.int 0)) dNil)) (dCons (dC (.int 0)) dNil)))) (dTupG 3 (dGcons (dName 2) (dGcons (dName 3) (dGcons (dName 4) dGnil))))) (dSeq (dWhile (dTest (dOp rLt (dVar 4) (dCB rLen (dCons (dVar 3) dNil)))) (dSeq (dAsg (dOp rIx (dVar 3) (dVar 4)) (dName 5)) (dSeq (dFor (dEnum (dCons (dOp rIx (dOp rIx (dVar 1) (dVar 5)) (dC (.int 1))) dNil)) (dTupG 2 (dGcons (dName 6) (dGcons (dName 7) dGnil))) (dIf (dTest (dOp (rInDic true) (dVar 7) (dVar 2))) (dSeq (dAsg (dTup (dStar (dOp rIx (dVar 2) (dVar 5)) (dCons (dVar 6) dNil))) (dSub (dVar 2) (dVar 7))) (dDrop (dBM "list" rAppendD (dVar 3) (dCons (dVar 7) dNil)))) dNext)) (dAugI (fun a b => a + b) 4 (dC (.int 1)))))) (dRet (dCB rTuple (dCons (dLc (dIt (dVar 3)) (.nm 5) dYes (dTup (dCons (dVar 5) (dCons (dOp rIx (dVar 2) (dVar 5)) dNil))) [5]) dNil))))))
theorem okfirstpaths (gs : Gs mg) (F : FnP K "first_paths" (top 9) f fd) {aleastsheet : Addr} {dleastsheet : FuncData} {Sleastsheet : SpD} (Fleastsheet : FnP K "least_sheet" (top 7) aleastsheet dleastsheet) (Gleastsheet : FnOk P w K mg base CX0 4 aleastsheet dleastsheet ["sheet"] (liftSp ⟨K, P, w⟩ Sleastsheet)) (gleastsheet : mg "least_sheet" = some (.ref aleastsheet)) {S : SpD} (len : ∀ ds G q, S ds G q → ds.length = 1)
    (rd : ∀ ds G q, S ds G q → tfirstpaths Sleastsheet { nx := fun _ G' => fin (q .non) G', rt := fun d G' => fin (q d) G' } (startD Nfirstpaths ds) G) : FnOk P w K mg base CX0 5 f fd ["sheet"] (liftSp ⟨K, P, w⟩ S) := by
  have bleastsheet : Binds K dleastsheet ["sheet"] [] := Fleastsheet.bindsN fun _ _ _ _ _ _ us hl => match us, hl with | [_], _ => rfl
  exact okD F scfirstpaths len (tfirstpaths Sleastsheet) (fun cdv A outer s H E hr => PSs.nox (qss_cons (qs_set (i := 1) scfirstpaths.nd rfl (by first | exact Or.inl rfl | exact Or.inr rfl) (qe_call Gleastsheet hr rfl gleastsheet Fleastsheet.kp bleastsheet .nil (fun _ => rfl) (qa_cons (qv 0) qa_nil))) (qss_cons (qs_asg (qe_tup (qa_cons (qe_disp (QPs.cons qe_int (qe_tup qa_nil) QPs.nil)) (qa_cons (qe_lst (qa_cons qe_int qa_nil)) (qa_cons qe_int qa_nil)))) (qg_tup rfl (qgs_cons (qg_name (i := 2) scfirstpaths.nd rfl (by first | exact Or.inl rfl | exact Or.inr rfl)) (qgs_cons (qg_name (i := 3) scfirstpaths.nd rfl (by first | exact Or.inl rfl | exact Or.inr rfl)) (qgs_cons (qg_name (i := 4) scfirstpaths.nd rfl (by first | exact Or.inl rfl | exact Or.inr rfl)) qgs_nil))))) (qss_cons (qs_while .never (qt_cmp od_lt (qv 4) (qe_callB cd_len rfl gs.len rfl (qa_cons (qv 3) qa_nil)) rfl) (qss_cons (qs_set (i := 5) scfirstpaths.nd rfl (by first | exact Or.inl rfl | exact Or.inr rfl) (qe_ix (room_u hr) (qv 3) (qv 4) (fun _ _ => rfl))) (qss_cons (qs_for .never rfl (qi_enum rfl gs.enumerate (qa_cons (qe_ix (room_u hr) (qe_ix (room_u hr) (qv 1) (qv 5) (fun _ _ => rfl)) qe_int (fun _ _ => rfl)) qa_nil)) (qg_tup rfl (qgs_cons (qg_name (i := 6) scfirstpaths.nd rfl (by first | exact Or.inl rfl | exact Or.inr rfl)) (qgs_cons (qg_name (i := 7) scfirstpaths.nd rfl (by first | exact Or.inl rfl | exact Or.inr rfl)) qgs_nil))) (qss_one (qs_if (qt_cmp (op_notInDic (room_u hr)) (qv 7) (qv 2) rfl) (qss_cons (qs_asg (qe_tup (qa_star (qe_ix (room_u hr) (qv 2) (qv 5) (fun _ _ => rfl)) (qa_cons (qv 6) qa_nil))) (qg_sub (room_u hr) (qv 2) (qv 7) (fun _ => rfl))) (qss_one (qs_expr (qe_bm PySem.F.plainAttrs_list PySem.F.slot_list_append rfl mtd_append (qv 3) (qa_cons (qv 7) qa_nil))))) qss_nil))) (qss_one (qs_augI ip_add scfirstpaths.nd rfl (by first | exact Or.inl rfl | exact Or.inr rfl) qe_int))))) (qss_one (qs_ret (qe_callTy cd_tuple rfl gs.tuple rfl (qa_cons (qe_lc (own := [("row", 5)]) rfl scfirstpaths.nd (qi_it (qv 3)) (blkOk_by (N := Nfirstpaths) (sc := defScope (top 9)) (by decide +kernel)) (by decide) (fun _ _ _ _ _ => (pg_name (i := 5) scfirstpaths.nd rfl (by first | exact Or.inl rfl | exact Or.inr rfl))) (fun _ _ _ _ _ => qts_nil) (fun _ _ _ _ _ => (qe_tup (qa_cons (qv 5) (qa_cons (qe_ix (room_u hr) (qv 2) (qv 5) (fun _ _ => rfl)) qa_nil))))) qa_nil)))))))) rd
abbrev Nrooted : List Str := ["rows", "row", "found", "field", "tag", "fields"]
theorem scrooted : FnScope Nrooted ["rows", "row"] (defScope (top 11)) := ⟨rfl, rfl, rfl, by decide +kernel, rfl, by decide +kernel, by decide +kernel⟩
def trooted : TSd := (dSeq (dAsg (dLc (dIt (dVar 0)) (.tp [4, 5]) dYes (dTup (dCons (dVar 4) (dCons (dCB rTuple (dCons (dLc (dIt (dVar 5)) (.nm 3) dYes (dOp rAdd (dVar 3) (dC (.int 1))) [3]) dNil)) dNil))) [4, 5]) (dName 2)) (dRet (dTup (dCons (dOp rIx (dVar 2) (dVar 1)) (dStar (dVar 2) dNil)))))
theorem okrooted (gs : Gs mg) (F : FnP K "rooted" (top 11) f fd) {S : SpD} (len : ∀ ds G q, S ds G q → ds.length = 2)
    (rd : ∀ ds G q, S ds G q → trooted { nx := fun _ G' => fin (q .non) G', rt := fun d G' => fin (q d) G' } (startD Nrooted ds) G) : FnOk P w K mg base CX0 1 f fd ["rows", "row"] (liftSp ⟨K, P, w⟩ S) := by
  exact okD F scrooted len (trooted) (fun cdv A outer s H E hr => PSs.nox (qss_cons (qs_setLc (i := 2) (own := [("tag", 4), ("fields", 5)]) rfl scrooted.nd rfl rfl (sw_true rfl rfl rfl (by decide +kernel)) (qi_it (qv 0)) (blkOk_by (N := Nrooted) (sc := defScope (top 11)) (by decide +kernel)) (by decide) (fun _ _ _ _ _ => (pg_tup rfl (pgs_cons (pg_name (i := 4) scrooted.nd rfl (by first | exact Or.inl rfl | exact Or.inr rfl)) (pgs_cons (pg_name (i := 5) scrooted.nd rfl (by first | exact Or.inl rfl | exact Or.inr rfl)) pgs_nil)) rfl rfl)) (fun _ _ _ _ _ => qts_nil) (fun _ _ _ _ _ => (qe_tup (qa_cons (qv 4) (qa_cons (qe_callTy cd_tuple rfl gs.tuple rfl (qa_cons (qe_lc (own := [("field", 3)]) rfl scrooted.nd (qi_it (qv 5)) (blkOk_by (by rfl)) (by decide) (fun _ _ _ _ _ => (pg_name (i := 3) scrooted.nd rfl (by first | exact Or.inl rfl | exact Or.inr rfl))) (fun _ _ _ _ _ => qts_nil) (fun _ _ _ _ _ => (qe_op od_add (qv 3) qe_int))) qa_nil)) qa_nil))))) (qss_one (qs_ret (qe_tup (qa_cons (qe_ix (room_u hr) (qv 2) (qv 1) (fun _ _ => rfl)) (qa_star (qv 2) qa_nil))))))) rd
abbrev Npathtopart : List Str := ["sheet", "part", "least", "wanted", "row", "path"]
theorem scpathtopart : FnScope Npathtopart ["sheet", "part"] (defScope (top 10)) := ⟨rfl, rfl, rfl, by decide +kernel, rfl, by decide +kernel, by decide +kernel⟩
def tpathtopart (Sleastsheet : SpD) (Sfirstpaths : SpD) (Srooted : SpD) : TSd := (dSeq (dPar 2 3 (dCons (dCall Sleastsheet [] (dCons (dVar 0) dNil)) (dCons (dCall Sleastsheet [] (dCons (dVar 1) dNil)) dNil))) (dSeq (dFor (dIt (dCall Sfirstpaths [] (dCons (dVar 2) dNil))) (dTupG 2 (dGcons (dName 4) (dGcons (dName 5) dGnil))) (dIf (dTest (dOp (rEqv false) (dCall Sleastsheet [] (dCons (dCall Srooted [] (dCons (dVar 2) (dCons (dVar 4) dNil))) dNil)) (dVar 3))) (dRet (dVar 5)) dNext)) (dRet (dC .non))))
theorem okpathtopart (gs : Gs mg) (F : FnP K "path_to_part" (top 10) f fd) {aleastsheet : Addr} {dleastsheet : FuncData} {Sleastsheet : SpD} (Fleastsheet : FnP K "least_sheet" (top 7) aleastsheet dleastsheet) (Gleastsheet : FnOk P w K mg base CX0 4 aleastsheet dleastsheet ["sheet"] (liftSp ⟨K, P, w⟩ Sleastsheet)) (gleastsheet : mg "least_sheet" = some (.ref aleastsheet)) {afirstpaths : Addr} {dfirstpaths : FuncData} {Sfirstpaths : SpD} (Ffirstpaths : FnP K "first_paths" (top 9) afirstpaths dfirstpaths) (Gfirstpaths : FnOk P w K mg base CX0 5 afirstpaths dfirstpaths ["sheet"] (liftSp ⟨K, P, w⟩ Sfirstpaths)) (gfirstpaths : mg "first_paths" = some (.ref afirstpaths)) {arooted : Addr} {drooted : FuncData} {Srooted : SpD} (Frooted : FnP K "rooted" (top 11) arooted drooted) (Grooted : FnOk P w K mg base CX0 1 arooted drooted ["rows", "row"] (liftSp ⟨K, P, w⟩ Srooted)) (grooted : mg "rooted" = some (.ref arooted)) {S : SpD} (len : ∀ ds G q, S ds G q → ds.length = 2)
    (rd : ∀ ds G q, S ds G q → tpathtopart Sleastsheet Sfirstpaths Srooted { nx := fun _ G' => fin (q .non) G', rt := fun d G' => fin (q d) G' } (startD Npathtopart ds) G) : FnOk P w K mg base CX0 6 f fd ["sheet", "part"] (liftSp ⟨K, P, w⟩ S) := by
  have bleastsheet : Binds K dleastsheet ["sheet"] [] := Fleastsheet.bindsN fun _ _ _ _ _ _ us hl => match us, hl with | [_], _ => rfl
  have bfirstpaths : Binds K dfirstpaths ["sheet"] [] := Ffirstpaths.bindsN fun _ _ _ _ _ _ us hl => match us, hl with | [_], _ => rfl
  have brooted : Binds K drooted ["rows", "row"] [] := Frooted.bindsN fun _ _ _ _ _ _ us hl => match us, hl with | [_, _], _ => rfl
  exact okD F scpathtopart len (tpathtopart Sleastsheet Sfirstpaths Srooted) (fun cdv A outer s H E hr => PSs.nox (qss_cons (qs_par (i := 2) (j := 3) rfl scpathtopart.nd rfl rfl (by decide) rfl rfl (qa_cons (qe_call Gleastsheet (hr.mono (by decide)) rfl gleastsheet Fleastsheet.kp bleastsheet .nil (fun _ => rfl) (qa_cons (qv 0) qa_nil)) (qa_cons (qe_call Gleastsheet (hr.mono (by decide)) rfl gleastsheet Fleastsheet.kp bleastsheet .nil (fun _ => rfl) (qa_cons (qv 1) qa_nil)) qa_nil)) rfl) (qss_cons (qs_for .never rfl (qi_it (qe_call Gfirstpaths hr rfl gfirstpaths Ffirstpaths.kp bfirstpaths .nil (fun _ => rfl) (qa_cons (qv 2) qa_nil))) (qg_tup rfl (qgs_cons (qg_name (i := 4) scpathtopart.nd rfl (by first | exact Or.inl rfl | exact Or.inr rfl)) (qgs_cons (qg_name (i := 5) scpathtopart.nd rfl (by first | exact Or.inl rfl | exact Or.inr rfl)) qgs_nil))) (qss_one (qs_if (qt_cmp (od_eq (room_u hr)) (qe_call Gleastsheet (hr.mono (by decide)) rfl gleastsheet Fleastsheet.kp bleastsheet .nil (fun _ => rfl) (qa_cons (qe_call Grooted (hr.mono (by decide)) rfl grooted Frooted.kp brooted .nil (fun _ => rfl) (qa_cons (qv 2) (qa_cons (qv 4) qa_nil))) qa_nil)) (qv 3) rfl) (qss_one (qs_ret (qv 5))) qss_nil))) (qss_one (qs_ret qe_non))))) rd
abbrev Npathtotag : List Str := ["sheet", "tag", "least", "row", "path"]
theorem scpathtotag : FnScope Npathtotag ["sheet", "tag"] (defScope (top 12)) := ⟨rfl, rfl, rfl, by decide +kernel, rfl, by decide +kernel, by decide +kernel⟩
def tpathtotag (Sleastsheet : SpD) (Sfirstpaths : SpD) : TSd := (dSeq (dAsg (dCall Sleastsheet [] (dCons (dVar 0) dNil)) (dName 2)) (dSeq (dFor (dIt (dCall Sfirstpaths [] (dCons (dVar 2) dNil))) (dTupG 2 (dGcons (dName 3) (dGcons (dName 4) dGnil))) (dIf (dTest (dOp (rEqv false) (dOp rIx (dOp rIx (dVar 2) (dVar 3)) (dC (.int 0))) (dVar 1))) (dRet (dVar 4)) dNext)) (dRet (dC .non))))
theorem okpathtotag (gs : Gs mg) (F : FnP K "path_to_tag" (top 12) f fd) {aleastsheet : Addr} {dleastsheet : FuncData} {Sleastsheet : SpD} (Fleastsheet : FnP K "least_sheet" (top 7) aleastsheet dleastsheet) (Gleastsheet : FnOk P w K mg base CX0 4 aleastsheet dleastsheet ["sheet"] (liftSp ⟨K, P, w⟩ Sleastsheet)) (gleastsheet : mg "least_sheet" = some (.ref aleastsheet)) {afirstpaths : Addr} {dfirstpaths : FuncData} {Sfirstpaths : SpD} (Ffirstpaths : FnP K "first_paths" (top 9) afirstpaths dfirstpaths) (Gfirstpaths : FnOk P w K mg base CX0 5 afirstpaths dfirstpaths ["sheet"] (liftSp ⟨K, P, w⟩ Sfirstpaths)) (gfirstpaths : mg "first_paths" = some (.ref afirstpaths)) {S : SpD} (len : ∀ ds G q, S ds G q → ds.length = 2)
    (rd : ∀ ds G q, S ds G q → tpathtotag Sleastsheet Sfirstpaths { nx := fun _ G' => fin (q .non) G', rt := fun d G' => fin (q d) G' } (startD Npathtotag ds) G) : FnOk P w K mg base CX0 6 f fd ["sheet", "tag"] (liftSp ⟨K, P, w⟩ S) := by
  have bleastsheet : Binds K dleastsheet ["sheet"] [] := Fleastsheet.bindsN fun _ _ _ _ _ _ us hl => match us, hl with | [_], _ => rfl
  have bfirstpaths : Binds K dfirstpaths ["sheet"] [] := Ffirstpaths.bindsN fun _ _ _ _ _ _ us hl => match us, hl with | [_], _ => rfl
  exact okD F scpathtotag len (tpathtotag Sleastsheet Sfirstpaths) (fun cdv A outer s H E hr => PSs.nox (qss_cons (qs_set (i := 2) scpathtotag.nd rfl (by first | exact Or.inl rfl | exact Or.inr rfl) (qe_call Gleastsheet (hr.mono (by decide)) rfl gleastsheet Fleastsheet.kp bleastsheet .nil (fun _ => rfl) (qa_cons (qv 0) qa_nil))) (qss_cons (qs_for .never rfl (qi_it (qe_call Gfirstpaths hr rfl gfirstpaths Ffirstpaths.kp bfirstpaths .nil (fun _ => rfl) (qa_cons (qv 2) qa_nil))) (qg_tup rfl (qgs_cons (qg_name (i := 3) scpathtotag.nd rfl (by first | exact Or.inl rfl | exact Or.inr rfl)) (qgs_cons (qg_name (i := 4) scpathtotag.nd rfl (by first | exact Or.inl rfl | exact Or.inr rfl)) qgs_nil))) (qss_one (qs_if (qt_cmp (od_eq (room_u hr)) (qe_ix (room_u hr) (qe_ix (room_u hr) (qv 2) (qv 3) (fun _ _ => rfl)) qe_int (fun _ _ => rfl)) (qv 1) rfl) (qss_one (qs_ret (qv 4))) qss_nil))) (qss_one (qs_ret qe_non))))) rd
abbrev Nlevelcounts : List Str := ["sheet", "depth", "least", "counts", "found", "level", "further", "row", "many", "goal"]
theorem sclevelcounts : FnScope Nlevelcounts ["sheet", "depth"] (defScope (top 13)) := ⟨rfl, rfl, rfl, by decide +kernel, rfl, by decide +kernel, by decide +kernel⟩
def tlevelcounts (Sleastsheet : SpD) : TSd := (dSeq (dAsg (dCall Sleastsheet [] (dCons (dVar 0) dNil)) (dName 2)) (dSeq (dPar 3 4 (dCons (dDisp [((dC (.int 0)), (dC (.int 1)))]) (dCons (dLst dNil) dNil))) (dSeq (dFor (dRange1 (dCons (dOp rAdd (dVar 1) (dC (.int 1))) dNil)) (dName 5) (dSeq (dDrop (dBM "list" rAppendD (dVar 4) (dCons (dSumV (dVar 3)) dNil))) (dSeq (dAsg dNewD (dName 6)) (dSeq (dLock (dFor (dItems (dVar 3)) (dTupG 2 (dGcons (dName 7) (dGcons (dName 8) dGnil))) (dFor (dIt (dOp rIx (dOp rIx (dVar 2) (dVar 7)) (dC (.int 1)))) (dName 9) (dAsg (dOp rAdd (dBM "dict" rGet (dVar 6) (dCons (dVar 9) (dCons (dC (.int 0)) dNil))) (dVar 8)) (dSub (dVar 6) (dVar 9)))))) (dAsg (dVar 6) (dName 3)))))) (dRet (dCB rTuple (dCons (dVar 4) dNil))))))
theorem oklevelcounts (gs : Gs mg) (F : FnP K "level_counts" (top 13) f fd) {aleastsheet : Addr} {dleastsheet : FuncData} {Sleastsheet : SpD} (Fleastsheet : FnP K "least_sheet" (top 7) aleastsheet dleastsheet) (Gleastsheet : FnOk P w K mg base CX0 4 aleastsheet dleastsheet ["sheet"] (liftSp ⟨K, P, w⟩ Sleastsheet)) (gleastsheet : mg "least_sheet" = some (.ref aleastsheet)) {S : SpD} (len : ∀ ds G q, S ds G q → ds.length = 2)
    (rd : ∀ ds G q, S ds G q → tlevelcounts Sleastsheet { nx := fun _ G' => fin (q .non) G', rt := fun d G' => fin (q d) G' } (startD Nlevelcounts ds) G) : FnOk P w K mg base CX0 5 f fd ["sheet", "depth"] (liftSp ⟨K, P, w⟩ S) := by
  have bleastsheet : Binds K dleastsheet ["sheet"] [] := Fleastsheet.bindsN fun _ _ _ _ _ _ us hl => match us, hl with | [_], _ => rfl
  exact okD F sclevelcounts len (tlevelcounts Sleastsheet) (fun cdv A outer s H E hr => PSs.nox (qss_cons (qs_set (i := 2) sclevelcounts.nd rfl (by first | exact Or.inl rfl | exact Or.inr rfl) (qe_call Gleastsheet hr rfl gleastsheet Fleastsheet.kp bleastsheet .nil (fun _ => rfl) (qa_cons (qv 0) qa_nil))) (qss_cons (qs_par (i := 3) (j := 4) rfl sclevelcounts.nd rfl rfl (by decide) rfl rfl (qa_cons (qe_disp (QPs.cons qe_int qe_int QPs.nil)) (qa_cons (qe_lst qa_nil) qa_nil)) rfl) (qss_cons (qs_for .never rfl (qi_range1 rfl gs.range (qa_cons (qe_op od_add (qv 1) qe_int) qa_nil)) (qg_name (i := 5) sclevelcounts.nd rfl (by first | exact Or.inl rfl | exact Or.inr rfl)) (qss_cons (qs_expr (qe_bm PySem.F.plainAttrs_list PySem.F.slot_list_append rfl mtd_append (qv 4) (qa_cons (qe_sumV rfl rfl gs.sum (qv 3)) qa_nil))) (qss_cons (qs_set (i := 6) sclevelcounts.nd rfl (by first | exact Or.inl rfl | exact Or.inr rfl) qe_dnew) (qss_cons (qs_lock (qs_for .never rfl (qi_items (qv 3)) (qg_tup rfl (qgs_cons (qg_name (i := 7) sclevelcounts.nd rfl (by first | exact Or.inl rfl | exact Or.inr rfl)) (qgs_cons (qg_name (i := 8) sclevelcounts.nd rfl (by first | exact Or.inl rfl | exact Or.inr rfl)) qgs_nil))) (qss_one (qs_for .never rfl (qi_it (qe_ix (room_u hr) (qe_ix (room_u hr) (qv 2) (qv 7) (fun _ _ => rfl)) qe_int (fun _ _ => rfl))) (qg_name (i := 9) sclevelcounts.nd rfl (by first | exact Or.inl rfl | exact Or.inr rfl)) (qss_one (qs_asg (qe_op od_add (qe_bm PySem.F.plainAttrs_dict PySem.F.slot_dict_get rfl (mtd_get (room_u hr)) (qv 6) (qa_cons (qv 9) (qa_cons qe_int qa_nil))) (qv 8)) (qg_sub (room_u hr) (qv 6) (qv 9) (fun _ => rfl)))))))) (qss_one (qs_set (i := 3) sclevelcounts.nd rfl (by first | exact Or.inl rfl | exact Or.inr rfl) (qv 6))))))) (qss_one (qs_ret (qe_callTy cd_tuple rfl gs.tuple rfl (qa_cons (qv 4) qa_nil)))))))) rd
abbrev Ntagcounts : List Str := ["sheet", "depth", "least", "counts", "found", "level", "further", "row", "many", "tag", "fields", "goal"]
theorem sctagcounts : FnScope Ntagcounts ["sheet", "depth"] (defScope (top 14)) := ⟨rfl, rfl, rfl, by decide +kernel, rfl, by decide +kernel, by decide +kernel⟩
def ttagcounts (Sleastsheet : SpD) : TSd := (dSeq (dAsg (dCall Sleastsheet [] (dCons (dVar 0) dNil)) (dName 2)) (dSeq (dPar 3 4 (dCons (dDisp [((dC (.int 0)), (dC (.int 1)))]) (dCons dNewD dNil))) (dSeq (dFor (dRange1 (dCons (dOp rAdd (dVar 1) (dC (.int 1))) dNil)) (dName 5) (dSeq (dAsg dNewD (dName 6)) (dSeq (dLock (dFor (dItems (dVar 3)) (dTupG 2 (dGcons (dName 7) (dGcons (dName 8) dGnil))) (dSeq (dAsg (dOp rIx (dVar 2) (dVar 7)) (dTupG 2 (dGcons (dName 9) (dGcons (dName 10) dGnil)))) (dSeq (dAsg (dOp rAdd (dBM "dict" rGet (dVar 4) (dCons (dVar 9) (dCons (dC (.int 0)) dNil))) (dVar 8)) (dSub (dVar 4) (dVar 9))) (dFor (dIt (dVar 10)) (dName 11) (dAsg (dOp rAdd (dBM "dict" rGet (dVar 6) (dCons (dVar 11) (dCons (dC (.int 0)) dNil))) (dVar 8)) (dSub (dVar 6) (dVar 11)))))))) (dAsg (dVar 6) (dName 3))))) (dRet (dCB rTuple (dCons (dSortItems (dVar 4)) dNil))))))
theorem oktagcounts (gs : Gs mg) (F : FnP K "tag_counts" (top 14) f fd) {aleastsheet : Addr} {dleastsheet : FuncData} {Sleastsheet : SpD} (Fleastsheet : FnP K "least_sheet" (top 7) aleastsheet dleastsheet) (Gleastsheet : FnOk P w K mg base CX0 4 aleastsheet dleastsheet ["sheet"] (liftSp ⟨K, P, w⟩ Sleastsheet)) (gleastsheet : mg "least_sheet" = some (.ref aleastsheet)) {S : SpD} (len : ∀ ds G q, S ds G q → ds.length = 2)
    (rd : ∀ ds G q, S ds G q → ttagcounts Sleastsheet { nx := fun _ G' => fin (q .non) G', rt := fun d G' => fin (q d) G' } (startD Ntagcounts ds) G) : FnOk P w K mg base CX0 5 f fd ["sheet", "depth"] (liftSp ⟨K, P, w⟩ S) := by
  have bleastsheet : Binds K dleastsheet ["sheet"] [] := Fleastsheet.bindsN fun _ _ _ _ _ _ us hl => match us, hl with | [_], _ => rfl
  exact okD F sctagcounts len (ttagcounts Sleastsheet) (fun cdv A outer s H E hr => PSs.nox (qss_cons (qs_set (i := 2) sctagcounts.nd rfl (by first | exact Or.inl rfl | exact Or.inr rfl) (qe_call Gleastsheet hr rfl gleastsheet Fleastsheet.kp bleastsheet .nil (fun _ => rfl) (qa_cons (qv 0) qa_nil))) (qss_cons (qs_par (i := 3) (j := 4) rfl sctagcounts.nd rfl rfl (by decide) rfl rfl (qa_cons (qe_disp (QPs.cons qe_int qe_int QPs.nil)) (qa_cons qe_dnew qa_nil)) rfl) (qss_cons (qs_for .never rfl (qi_range1 rfl gs.range (qa_cons (qe_op od_add (qv 1) qe_int) qa_nil)) (qg_name (i := 5) sctagcounts.nd rfl (by first | exact Or.inl rfl | exact Or.inr rfl)) (qss_cons (qs_set (i := 6) sctagcounts.nd rfl (by first | exact Or.inl rfl | exact Or.inr rfl) qe_dnew) (qss_cons (qs_lock (qs_for .never rfl (qi_items (qv 3)) (qg_tup rfl (qgs_cons (qg_name (i := 7) sctagcounts.nd rfl (by first | exact Or.inl rfl | exact Or.inr rfl)) (qgs_cons (qg_name (i := 8) sctagcounts.nd rfl (by first | exact Or.inl rfl | exact Or.inr rfl)) qgs_nil))) (qss_cons (qs_asg (qe_ix (room_u hr) (qv 2) (qv 7) (fun _ _ => rfl)) (qg_tup rfl (qgs_cons (qg_name (i := 9) sctagcounts.nd rfl (by first | exact Or.inl rfl | exact Or.inr rfl)) (qgs_cons (qg_name (i := 10) sctagcounts.nd rfl (by first | exact Or.inl rfl | exact Or.inr rfl)) qgs_nil)))) (qss_cons (qs_asg (qe_op od_add (qe_bm PySem.F.plainAttrs_dict PySem.F.slot_dict_get rfl (mtd_get (room_u hr)) (qv 4) (qa_cons (qv 9) (qa_cons qe_int qa_nil))) (qv 8)) (qg_sub (room_u hr) (qv 4) (qv 9) (fun _ => rfl))) (qss_one (qs_for .never rfl (qi_it (qv 10)) (qg_name (i := 11) sctagcounts.nd rfl (by first | exact Or.inl rfl | exact Or.inr rfl)) (qss_one (qs_asg (qe_op od_add (qe_bm PySem.F.plainAttrs_dict PySem.F.slot_dict_get rfl (mtd_get (room_u hr)) (qv 6) (qa_cons (qv 11) (qa_cons qe_int qa_nil))) (qv 8)) (qg_sub (room_u hr) (qv 6) (qv 11) (fun _ => rfl)))))))))) (qss_one (qs_set (i := 3) sctagcounts.nd rfl (by first | exact Or.inl rfl | exact Or.inr rfl) (qv 6)))))) (qss_one (qs_ret (qe_callTy cd_tuple rfl gs.tuple rfl (qa_cons (qe_sortItems rfl (room_u hr) rfl gs.sorted (qv 4)) qa_nil)))))))) rd
end
end DL.K81
/-! X1: words to run a reading: structure, heap facts, comprehensions, keyed dicts. -/
namespace DL
open PySem PySem.Spec PyProof.Rows L2
/-! ### heaps that grow -/
abbrev Fp := Addr → Prop
abbrev no : Fp := fun _ => False
/-- what is known stays, but for the places of E -/
def Sx (E : Fp) (G G' : Gp) : Prop := ∀ a m, ¬ E a → G a = some m → G' a = some m
section
variable {E : Fp} {G G' G'' : Gp} {a p : Addr} {m : MO}
theorem Sx.refl : Sx E G G := fun _ _ _ h => h
theorem Sx.trans (h : Sx E G G') (k : Sx E G' G'') : Sx E G G'' := fun a m e x => k a m e (h a m e x)
theorem Sx.of (h : Sx no G G') : Sx E G G' := fun a m _ x => h a m id x
theorem Sx.sub (h : Sx no G G') : Sub G G' := fun a m x => h a m id x
theorem Sub.sx (h : Sub G G') : Sx E G G' := fun a m _ x => h a m x
theorem Sx.gup (h : Sx E G G') (n : G p = none) : Sx E G (gup G' p m) := fun b k e x => by
  rw [gup_ne (by rintro rfl; rw [n] at x; cases x)]
  exact h b k e x
theorem Sx.gupE (h : Sx E G G') (n : E p) : Sx E G (DL.gup G' p m) := fun b k e x => by
  rw [gup_ne (by rintro rfl; exact e n)]
  exact h b k e x
theorem Sx.at (h : Sx E G G') (n : ¬ E a) (x : G a = some m) : G' a = some m := h a m n x
theorem Sx.back (s : Sx E G G') (hE : ¬ E p) (h : G' p = none) : G p = none := by
  cases e : G p with
  | none => rfl
  | some m => rw [s p m hE e] at h; cases h
theorem Sx.bk (s : Sx no G G') (h : G' p = none) : G p = none := s.back id h
theorem Sx.cut (s1 : Sx no G G') (s2 : Sx E G' G'') (h : ∀ b, E b → G b = none) : Sx no G G'' := fun b m _ x => s2 b m (fun e => by rw [h b e] at x; cases x) (s1 b m id x)
/-- what E's places keep -/
structure Fr (E : Fp) (J : Gp → Prop) : Prop where
  ex : ∀ G a, J G → E a → G a ≠ none
  st : ∀ G a m, J G → ¬ E a → J (gup G a m)
theorem Fr.no : Fr no (fun _ => True) := ⟨fun _ _ _ h => h.elim, fun _ _ _ _ _ => trivial⟩
theorem Fr.fresh {J : Gp → Prop} (f : Fr E J) (hj : J G) (h : G p = none) : ¬ E p := fun e => f.ex G p hj e h
end
/-! ### side by side, from the start -/
inductive F2 {α β : Type} (R : α → β → Prop) : List α → List β → Prop
  | nil : F2 R [] []
  | cons {a b as bs} : R a b → F2 R as bs → F2 R (a :: as) (b :: bs)
section
variable {α β γ : Type}
theorem F2.imp {R S : α → β → Prop} (h : ∀ a b, R a b → S a b) {as : List α} {bs : List β} (f : F2 R as bs) : F2 S as bs := by
  induction f with
  | nil => exact .nil
  | cons a t ih => exact .cons (h _ _ a) ih
theorem F2.len {R : α → β → Prop} {as : List α} {bs : List β} (f : F2 R as bs) : as.length = bs.length := by
  induction f with
  | nil => rfl
  | cons a t ih => rw [List.length_cons, List.length_cons, ih]
theorem F2.snoc {R : α → β → Prop} {as : List α} {bs : List β} {a : α} {b : β} (f : F2 R as bs) (h : R a b) : F2 R (as ++ [a]) (bs ++ [b]) := by
  induction f with
  | nil => exact .cons h .nil
  | cons x t ih => exact .cons x ih
/-- each value is told by its item -/
theorem F2.fn {f : α → β} {as : List α} {bs : List β} (h : F2 (fun a b => b = f a) as bs) : bs = as.map f := by
  induction h with
  | nil => rfl
  | cons a t ih => rw [a, ih]; rfl
theorem F2.mapL {f : γ → α} {R : α → β → Prop} : ∀ {as : List γ} {bs : List β}, F2 R (as.map f) bs → F2 (fun a b => R (f a) b) as bs
  | [], _, .nil => .nil
  | _ :: _, _, .cons a t => .cons a (F2.mapL t)
theorem F2.all {R : α → β → Prop} {P : β → Prop} (h : ∀ a b, R a b → P b) {as : List α} {bs : List β} (f : F2 R as bs) : ∀ b ∈ bs, P b := by
  induction f with
  | nil => simp
  | cons a t ih =>
    intro b hb
    rcases List.mem_cons.mp hb with rfl | hb
    · exact h _ _ a
    · exact ih b hb
theorem F2.get {R : α → β → Prop} {as : List α} {bs : List β} (f : F2 R as bs) : ∀ {i : Nat} {a : α}, as[i]? = some a → ∃ b, bs[i]? = some b ∧ R a b := by
  induction f with
  | nil => intro i a h; simp at h
  | cons x t ih =>
    intro i a h
    cases i with
    | zero =>
      simp at h
      subst h
      exact ⟨_, by simp, x⟩
    | succ i =>
      obtain ⟨b, h1, h2⟩ := ih (i := i) (by simpa using h)
      exact ⟨b, by simpa using h1, h2⟩
theorem F2.gev {R : α → β → Prop} {as : List α} {bs : List β} (f : F2 R as bs) : ∀ {i : Nat} {b : β}, bs[i]? = some b → ∃ a, as[i]? = some a ∧ R a b := by
  induction f with
  | nil => intro i a h; simp at h
  | cons x t ih =>
    intro i a h
    cases i with
    | zero =>
      simp at h
      subst h
      exact ⟨_, by simp, x⟩
    | succ i =>
      obtain ⟨b, h1, h2⟩ := ih (i := i) (by simpa using h)
      exact ⟨b, by simpa using h1, h2⟩
end
theorem take_succ_get {α : Type} {l : List α} {i : Nat} {d : α} (h : l[i]? = some d) : l.take (i + 1) = l.take i ++ [d] := by
  rw [List.take_add_one, h]
  rfl
/-! ### structure: one lemma a word; each by what it is -/
section
variable {t u : TSd} {te to tr : TD} {ta : TAd} {tt uu : TTd} {E : Ed} {σ : Sd} {G : Gp} {q : QD} {i j m : Nat}
theorem x_seq (h : t { E with nx := u E } σ G) : dSeq t u E σ G := h
theorem x_next (h : E.nx σ G) : dNext E σ G := h
theorem x_asgN (h : te σ G fun d G1 => E.nx (σ.set i (some d)) G1) : dAsg te (dName i) E σ G := h
theorem x_asg {g : TGd} (h : te σ G fun d G1 => g d σ G1 E.nx) : dAsg te g E σ G := h
theorem x_drop (h : te σ G fun _ G1 => E.nx σ G1) : dDrop te E σ G := h
theorem x_ret (h : te σ G E.rt) : dRet te E σ G := h
theorem x_if (h : tt σ G fun b G1 => if b = true then t E σ G1 else u E σ G1) : dIf tt t u E σ G := h
theorem x_par (h : ta σ G fun ds G1 => arg2 ds fun d e => E.nx ((σ.set i (some d)).set j (some e)) G1) : dPar i j ta E σ G := h
theorem x_par3 (h : ta σ G fun ds G1 => arg3 ds fun d e f => E.nx (((σ.set i (some d)).set j (some e)).set m (some f)) G1) : dPar3 i j m ta E σ G := h
theorem x_break (h : E.bk σ G) : dBreak E σ G := h
theorem x_cont (h : E.ct σ G) : dCont E σ G := h
def LookK (o : Option (Option D)) (G : Gp) (q : QD) : Prop := match o with
  | some (some d) => q d G
  | _ => False
theorem x_var (h : LookK σ[i]? G q) : dVar i σ G q := h
theorem look {o : Option (Option D)} {d : D} (h : o = some (some d)) (k : q d G) : LookK o G q := by
  subst h
  exact k
theorem x_c {d : D} (h : q d G) : dC d σ G q := h
theorem x_op {r : R2d} (h : te σ G fun x G1 => to σ G1 fun y G2 => r x y G2 q) : dOp r te to σ G q := h
theorem x_un {r : D → Gp → QD → Prop} (h : te σ G fun x G1 => r x G1 q) : dUn r te σ G q := h
theorem x_nil {k : List D → Gp → Prop} (h : k [] G) : dNil σ G k := h
theorem x_cons {k : List D → Gp → Prop} (h : te σ G fun d G1 => ta σ G1 fun ds G2 => k (d :: ds) G2) : dCons te ta σ G k := h
theorem x_star {k : List D → Gp → Prop} (h : te σ G fun d G1 => isSeq d G1 fun xs _ => ta σ G1 fun ys G2 => k (xs ++ ys) G2) : dStar te ta σ G k := h
theorem x_cb {r : RNd} (h : ta σ G fun ds G1 => r ds G1 q) : dCB r ta σ G q := h
theorem x_bm {T : String} {r : RMd} (h : to σ G fun x G1 => tyD T x G1 ∧ ta σ G1 fun xs G2 => r x xs G2 q) : dBM T r to ta σ G q := h
theorem x_call {S : SpD} {dds : List D} (h : ta σ G fun ds G1 => S (ds ++ dds) G1 q) : dCall S dds ta σ G q := h
theorem x_callK {S : SpD} {gD : List D → List D → List D} (h : ta σ G fun es G1 => S (gD [] es) G1 q) : dCallK S gD ta σ G q := h
theorem x_tup (h : ta σ G fun ds G1 => ds.length ≤ sizeLine ∧ q (.tup ds) G1) : dTup ta σ G q := h
theorem x_lst (h : ta σ G fun ds G1 => ds.length ≤ sizeLine ∧ newO (.lst ds) q G1) : dLst ta σ G q := h
theorem x_newD (h : newO (.dic []) q G) : dNewD σ G q := h
theorem x_test {k : Bool → Gp → Prop} (h : te σ G (isB k)) : dTest te σ G k := h
theorem x_not {k : Bool → Gp → Prop} (h : tt σ G fun c G1 => k (!c) G1) : dNot tt σ G k := h
theorem x_and {k : Bool → Gp → Prop} (h : tt σ G fun c G1 => if c = true then uu σ G1 k else k false G1) : dAnd tt uu σ G k := h
theorem x_or {k : Bool → Gp → Prop} (h : tt σ G fun c G1 => if c = true then k true G1 else uu σ G1 k) : dOr tt uu σ G k := h
theorem x_ifE (h : tt σ G fun c G1 => if c = true then te σ G1 q else to σ G1 q) : dIfE tt te to σ G q := h
theorem x_notV (h : te σ G (isB fun c G1 => q (.bl (!c)) G1)) : dNotV te σ G q := h
theorem x_yes {k : Bool → Gp → Prop} (h : k true G) : dYes σ G k := h
theorem x_gname {d : D} {k : Sd → Gp → Prop} (h : k (σ.set i (some d)) G) : dName i d σ G k := h
theorem x_gnil {k : Sd → Gp → Prop} (h : k σ G) : dGnil [] σ G k := ⟨rfl, h⟩
theorem x_gcons {d : D} {ds : List D} {g : TGd} {gs : TGsd} {k : Sd → Gp → Prop} (h : g d σ G fun σ' G' => gs ds σ' G' k) : dGcons g gs (d :: ds) σ G k := h
theorem x_gtup {ds : List D} {gs : TGsd} {n : Nat} {k : Sd → Gp → Prop} (hn : ds.length = n) (h : gs ds σ G k) : dTupG n gs (.tup ds) σ G k := ⟨hn, h⟩
theorem x_gsub {ti : TD} {v : D} {k : Sd → Gp → Prop} (h : to σ G fun o G1 => ti σ G1 fun i G2 => rSet o i v G2 fun G3 => k σ G3) : dSub to ti v σ G k := h
def ItK (d : D) (G : Gp) (r : List D → (Gp → Prop) → Gp → Prop) : Prop := match d with
  | .tup ds => r ds (fun _ => True) G
  | .ref a => ∃ ds, ListAt G a ds ∧ r ds (fun G => ListAt G a ds) G
  | _ => False
theorem x_it {r : List D → (Gp → Prop) → Gp → Prop} (h : te σ G fun d G1 => ItK d G1 r) : dIt te σ G r := h
theorem x_arg1 {d : D} {k : D → Prop} (h : k d) : arg1 [d] k := h
theorem x_arg2 {d e : D} {k : D → D → Prop} (h : k d e) : arg2 [d, e] k := h
theorem x_arg3 {d e f : D} {k : D → D → D → Prop} (h : k d e f) : arg3 [d, e, f] k := h
theorem x_isB {b : Bool} {k : Bool → Gp → Prop} (h : k b G) : isB k (.bl b) G := h
theorem x_isI {n : Int} {k : Int → Prop} (h : k n) : isI (.int n) k := h
/-- over a tuple; over a list -/
theorem i_tup {ds : List D} {r : List D → (Gp → Prop) → Gp → Prop} (h : r ds (fun _ => True) G) : ItK (.tup ds) G r := h
theorem i_lst {a : Addr} {ds : List D} {r : List D → (Gp → Prop) → Gp → Prop} (e : G a = some (.lst ds)) (h : r ds (fun G => ListAt G a ds) G) : ItK (.ref a) G r := ⟨ds, .inl e, h⟩
theorem x_range1 {r : List D → (Gp → Prop) → Gp → Prop} (h : ta σ G fun ds G1 => arg1 ds fun d => isI d fun n => rngOk n ∧ r ((List.range n.toNat).map fun i => .int (i : Nat)) (fun _ => True) G1) : dRange1 ta σ G r := h
theorem x_enum {r : List D → (Gp → Prop) → Gp → Prop} (h : ta σ G fun ds G1 => arg1 ds fun d => isSeq d G1 fun es st => r (enumD es) st G1) : dEnum ta σ G r := h
/-- the body of a list comprehension -/
def LcB (p : Pat) (tt : TTd) (te : TD) (vs : List Nat) (σ : Sd) (q : QD) (ds : List D) (st : Gp → Prop) (G1 : Gp) : Prop := ∀ a, G1 a = none → ∃ W : Nat → List D → Gp → Prop, W 0 [] G1 ∧ (∀ i acc G, W i acc G → st (gup G a (.lst acc))) ∧
  (∀ i d acc G, ds[i]? = some d → W i acc G → atPat p d (wipeD σ vs) fun σ2 => tt σ2 (gup G a (.lst acc)) fun b G3 =>
    if b = true then te σ2 G3 fun e G4 => G4 a = some (.lst acc) ∧ acc.length < sizeLine ∧ ∃ G5, Sub (gup G5 a (.lst (acc ++ [e]))) (gup G4 a (.lst (acc ++ [e]))) ∧ W (i + 1) (acc ++ [e]) G5
    else ∃ G5, Sub (gup G5 a (.lst acc)) G3 ∧ W (i + 1) acc G5) ∧ ∀ acc G, W ds.length acc G → q (.ref a) (gup G a (.lst acc))
theorem x_lc {ti : TId} {p : Pat} {vs : List Nat} (h : ti σ G (LcB p tt te vs σ q)) : dLc ti p tt te vs σ G q := h
def DcB (p : Pat) (tt : TTd) (tk tv : TD) (vs : List Nat) (σ : Sd) (q : QD) (ds : List D) (st : Gp → Prop) (G1 : Gp) : Prop := ∀ a, G1 a = none → ∃ W : Nat → List (D × D) → Gp → Prop, W 0 [] G1 ∧ (∀ i acc G, W i acc G → st (gup G a (.dic acc))) ∧
  (∀ i d acc G, ds[i]? = some d → W i acc G → atPat p d (wipeD σ vs) fun σ2 => tt σ2 (gup G a (.dic acc)) fun b G3 =>
    if b = true then tk σ2 G3 fun k G4 => tv σ2 G4 fun e G5 => (∃ kk, isK k = some kk) ∧ G5 a = some (.dic acc) ∧ KeysK acc ∧ acc.length < sizeLine ∧ ∃ G6, Sub (gup G6 a (.dic (dput acc k e))) (gup G5 a (.dic (dput acc k e))) ∧ W (i + 1) (dput acc k e) G6
    else ∃ G5, Sub (gup G5 a (.dic acc)) G3 ∧ W (i + 1) acc G5) ∧ ∀ acc G, W ds.length acc G → q (.ref a) (gup G a (.dic acc))
theorem x_dc {ti : TId} {p : Pat} {tk tv : TD} {vs : List Nat} (h : ti σ G (DcB p tt tk tv vs σ q)) : dDc ti p tt tk tv vs σ G q := h
def ForB (g : TGd) (tb : TSd) (E : Ed) (σ : Sd) (ds : List D) (st : Gp → Prop) (G1 : Gp) : Prop := ∃ W : Nat → Sd → Gp → Prop, fin (W 0 σ) G1 ∧ (∀ i σ G, W i σ G → st G) ∧
  (∀ i d σ G, ds[i]? = some d → W i σ G → g d σ G fun σ2 G2 => tb { E with nx := fun σ' G' => fin (W (i + 1) σ') G', ct := fun σ' G' => fin (W (i + 1) σ') G', bk := E.nx } σ2 G2) ∧ ∀ σ G, W ds.length σ G → E.nx σ G
theorem x_for {ti : TId} {g : TGd} {tb : TSd} (h : ti σ G (ForB g tb E σ)) : dFor ti g tb E σ G := h
end
theorem new_run {m : MO} {q : QD} {G : Gp} (h : ∀ p G', G p = none → Sx no G G' → G' p = some m → G' = gup G p m → q (.ref p) G') : newO m q G := fun p hp => h p _ hp (Sx.refl.gup hp) gup_same rfl
theorem sz {n : Nat} (h : n < 64) : n ≤ sizeLine := by rw [sizeLine_eq]; omega
theorem szl {n : Nat} (h : n < 64) : n < sizeLine := by rw [sizeLine_eq]; omega
/-! ### comprehensions: one rule for all -/
section
variable {E : Fp} {J : Gp → Prop} {p : Pat} {tt : TTd} {te tk tv : TD} {vs : List Nat} {σ : Sd} {q : QD} {ds : List D} {st : Gp → Prop} {G1 : Gp}
theorem gup_self {G : Gp} {a : Addr} {m : MO} (h : G a = some m) : gup G a m = G := by
  funext b
  by_cases hb : b = a
  · rw [hb, gup_same, h]
  · rw [gup_ne hb]
theorem lc_run (fr : Fr E J) (hJ : J G1) (b : D → Bool) (R : D → D → Prop) (hst : ∀ G', Sx E G1 G' → st G') (hl : ds.length < sizeLine)
    (turn : ∀ (i : Nat) d G', ds[i]? = some d → Sx E G1 G' → J G' → ∃ σ2, patD p d (wipeD σ vs) = some σ2 ∧ ∀ (k : Bool → Gp → Prop), (∀ G'', Sx E G' G'' → J G'' → k (b d) G'') → tt σ2 G' k)
    (elt : ∀ (i : Nat) d G' σ2, ds[i]? = some d → b d = true → Sx E G1 G' → J G' → patD p d (wipeD σ vs) = some σ2 → ∀ (k : QD), (∀ v G'', Sx E G' G'' → J G'' → R d v → k v G'') → te σ2 G' k)
    (done : ∀ a xs G', G1 a = none → Sx E G1 G' → J G' → G' a = some (.lst xs) → F2 R (ds.filter b) xs → q (.ref a) G') : LcB p tt te vs σ q ds st G1 := by
  intro a ha
  have hE : ¬ E a := fr.fresh hJ ha
  refine ⟨fun i acc G => J (gup G a (.lst acc)) ∧ Sx E G1 (gup G a (.lst acc)) ∧ acc.length ≤ i ∧ F2 R ((ds.take i).filter b) acc, ⟨fr.st _ _ _ hJ hE, Sx.refl.gup ha, Nat.le_refl _, .nil⟩, fun i acc G w => hst _ w.2.1, fun i d acc G hd ⟨w1, w2, w3, w4⟩ => ?_, fun acc G ⟨w1, w2, _, w4⟩ => ?_⟩
  · obtain ⟨σ2, e2, h2⟩ := turn i d _ hd w2 w1
    unfold atPat
    rw [e2]
    refine h2 _ fun G3 s3 j3 => ?_
    have hlt : acc.length < sizeLine := by
      have := (List.getElem?_eq_some_iff.mp hd).1
      omega
    have ga : G3 a = some (.lst acc) := s3 a _ hE gup_same
    cases hb : b d with
    | true =>
      rw [if_pos rfl]
      refine elt i d G3 σ2 hd hb (w2.trans s3) j3 e2 _ fun v G4 s4 j4 r => ⟨s4 a _ hE ga, hlt, G4, Sub.refl, fr.st _ _ _ j4 hE, ((w2.trans s3).trans s4).gup ha, by rw [List.length_append, List.length_singleton]; omega, ?_⟩
      rw [take_succ_get hd, List.filter_append, show List.filter b [d] = [d] from by rw [List.filter_cons, hb]; rfl]
      exact w4.snoc r
    | false =>
      rw [if_neg Bool.false_ne_true]
      refine ⟨G3, by rw [gup_self ga]; exact Sub.refl, by rw [gup_self ga]; exact j3, by rw [gup_self ga]; exact w2.trans s3, by omega, ?_⟩
      rw [take_succ_get hd, List.filter_append, show List.filter b [d] = [] from by rw [List.filter_cons, hb]; rfl, List.append_nil]
      exact w4
  · rw [List.take_length] at w4
    exact done a acc _ ha w2 w1 gup_same w4
/-- without a condition -/
theorem lc_map (fr : Fr E J) (hJ : J G1) (R : D → D → Prop) (hst : ∀ G', Sx E G1 G' → st G') (hl : ds.length < sizeLine)
    (elt : ∀ (i : Nat) d G', ds[i]? = some d → Sx E G1 G' → J G' → ∃ σ2, patD p d (wipeD σ vs) = some σ2 ∧ ∀ (k : QD), (∀ v G'', Sx E G' G'' → J G'' → R d v → k v G'') → te σ2 G' k)
    (done : ∀ a xs G', G1 a = none → Sx E G1 G' → J G' → G' a = some (.lst xs) → F2 R ds xs → q (.ref a) G') : LcB p dYes te vs σ q ds st G1 := by
  refine lc_run fr hJ (fun _ => true) R hst hl (fun i d G' hd s j => ?_) (fun i d G' σ2 hd _ s j e k hk => ?_) fun a xs G' ha s j e f => ?_
  · obtain ⟨σ2, e, _⟩ := elt i d G' hd s j
    exact ⟨σ2, e, fun k hk => hk G' Sx.refl j⟩
  · obtain ⟨σ3, e3, h⟩ := elt i d G' hd s j
    rw [e] at e3
    cases e3
    exact h k hk
  · rw [List.filter_eq_self.mpr (fun _ _ => rfl)] at f
    exact done a xs G' ha s j e f
/-- dict comprehensions: what is told of a pair stays -/
theorem dc_run (fr : Fr E J) (hJ : J G1) (R : Addr → D → D → D → Gp → Prop) (hst : ∀ G', Sx E G1 G' → st G') (hl : ds.length < sizeLine)
    (hR : ∀ a d k v G G', ¬ E a → Sx E G G' → R a d k v G → R a d k v G') (hRa : ∀ a d k v G m, R a d k v G → R a d k v (gup G a m)) (hK : ∀ a d k v G, R a d k v G → ∃ kk, k = kD kk)
    (elt : ∀ (i : Nat) d G' a acc, ds[i]? = some d → Sx E G1 G' → J G' → G1 a = none → ¬ E a → G' a = some (.dic acc) → ∃ σ2, patD p d (wipeD σ vs) = some σ2 ∧ ∀ (h : D → D → Gp → Prop), (∀ k v G'', Sx E G' G'' → J G'' → R a d k v G'' → h k v G'') → tk σ2 G' fun k G4 => tv σ2 G4 fun v G5 => h k v G5)
    (done : ∀ a prs G', G1 a = none → Sx E G1 G' → J G' → G' a = some (.dic (dputs prs)) → F2 (fun d (p : D × D) => R a d p.1 p.2 G') ds prs → q (.ref a) G') : DcB p dYes tk tv vs σ q ds st G1 := by
  intro a ha
  have hE : ¬ E a := fr.fresh hJ ha
  refine ⟨fun i acc G => J (gup G a (.dic acc)) ∧ Sx E G1 (gup G a (.dic acc)) ∧ ∃ prs, acc = dputs prs ∧ prs.length = i ∧ F2 (fun d (p : D × D) => R a d p.1 p.2 (gup G a (.dic acc))) (ds.take i) prs, ⟨fr.st _ _ _ hJ hE, Sx.refl.gup ha, [], rfl, rfl, .nil⟩, fun i acc G w => hst _ w.2.1, fun i d acc G hd ⟨w1, w2, prs, e1, e2, w4⟩ => ?_, fun acc G ⟨w1, w2, prs, e1, _, w4⟩ => ?_⟩
  · obtain ⟨σ2, es, h2⟩ := elt i d (gup G a (.dic acc)) a acc hd w2 w1 ha hE gup_same
    unfold atPat
    rw [es]
    unfold dYes
    dsimp only
    rw [if_pos rfl]
    refine h2 _ fun k v G5 s5 j5 r => ?_
    have ga : G5 a = some (.dic acc) := s5 a _ hE gup_same
    have keys : KeysK acc := by
      rw [e1]
      have all : ∀ (ps : List (D × D)) (acc : List (D × D)), (∀ p ∈ ps, ∃ kk, p.1 = kD kk) → KeysK acc → KeysK (ps.foldl (fun acc p => dput acc p.1 p.2) acc) := by
        intro ps
        induction ps with
        | nil => intro acc _ h; exact h
        | cons p ps ih =>
          intro acc hp h
          refine ih _ (fun p' h' => hp p' (List.mem_cons_of_mem _ h')) ?_
          obtain ⟨kk, ek⟩ := hp p List.mem_cons_self
          show KeysK (dput acc p.1 p.2)
          rw [ek]
          exact keysK_put h
      exact all prs [] (w4.all fun _ p r => hK _ _ _ _ _ r) (fun p hp => nomatch hp)
    have hlt : acc.length < sizeLine := by
      have h1 := (List.getElem?_eq_some_iff.mp hd).1
      have h2 := dputs_len prs []
      rw [e1]
      simp only [List.length_nil] at h2
      unfold dputs
      omega
    refine ⟨?_, ga, keys, hlt, G5, Sub.refl, fr.st _ _ _ j5 hE, (w2.trans s5).gup ha, prs ++ [(k, v)], by rw [e1]; unfold dputs; rw [List.foldl_append]; rfl, by rw [List.length_append, e2]; rfl, ?_⟩
    · obtain ⟨kk, ek⟩ := hK _ _ _ _ _ r
      exact ⟨kk, by rw [ek]; cases kk <;> rfl⟩
    · rw [take_succ_get hd]
      exact F2.snoc (w4.imp fun x y rr => hRa _ _ _ _ _ _ (hR _ _ _ _ _ _ hE s5 rr)) (hRa _ _ _ _ _ _ r)
  · have hlen := w4.len
    rw [List.take_length] at w4
    subst e1
    exact done a prs _ ha w2 w1 gup_same w4
end
/-! ### what stands at a place -/
section
variable {G : Gp} {a b : Addr} {ds es : List D} {kvs : List (D × D)} {d e k v : D} {q : QD}
theorem ListAt.lst (h : G a = some (.lst ds)) : ListAt G a ds := .inl h
theorem e_ixTup {i : Int} (g : atI ds i = some v) (k : q v G) : rIx (.tup ds) (.int i) G q := by
  show optK (atI ds i) fun v => q v G
  rw [g]
  exact k
theorem e_ixL {i : Int} (h : ListAt G a ds) (g : atI ds i = some v) (k : q v G) : rIx (.ref a) (.int i) G q := by
  show (match G a with
    | some (.lst ds) => isI (.int i) fun i => optK (atI ds i) fun v => q v G
    | some (.rol ds) => isI (.int i) fun i => optK (atI ds i) fun v => q v G
    | some (.dic kvs) => fits kvs (.int i) = true ∧ optK (dget kvs (.int i)) fun v => q v G
    | some (.rdc kvs) => fits kvs (.int i) = true ∧ optK (dget kvs (.int i)) fun v => q v G
    | _ => False)
  rcases h with h | h <;> rw [h] <;> show optK (atI ds i) (fun v => q v G) <;> rw [g] <;> exact k
/-- a dict, locked or not -/
def DicAt (G : Gp) (a : Addr) (kvs : List (D × D)) : Prop := G a = some (.dic kvs) ∨ G a = some (.rdc kvs)
theorem e_ixD (h : DicAt G a kvs) (f : fits kvs e = true) (g : dget kvs e = some v) (k : q v G) : rIx (.ref a) e G q := by
  show (match G a with
    | some (.lst ds) => isI e fun i => optK (atI ds i) fun v => q v G
    | some (.rol ds) => isI e fun i => optK (atI ds i) fun v => q v G
    | some (.dic kvs) => fits kvs e = true ∧ optK (dget kvs e) fun v => q v G
    | some (.rdc kvs) => fits kvs e = true ∧ optK (dget kvs e) fun v => q v G
    | _ => False)
  rcases h with h | h <;> rw [h] <;> refine ⟨f, ?_⟩ <;> rw [g] <;> exact k
theorem e_inD {n : Bool} (h : DicAt G a kvs) (f : fits kvs e = true) (k : q (.bl (xor n (dget kvs e).isSome)) G) : rInDic n e (.ref a) G q := by
  show (match G a with | some (.dic kvs) => fits kvs e = true ∧ q (.bl (xor n (dget kvs e).isSome)) G | some (.rdc kvs) => fits kvs e = true ∧ q (.bl (xor n (dget kvs e).isSome)) G | _ => False)
  rcases h with h | h <;> rw [h] <;> exact ⟨f, k⟩
theorem e_setL {k : Gp → Prop} {i : Int} {j : Nat} (h : G a = some (.lst ds)) (g : ixN ds.length i = some j) (q : k (gup G a (.lst (ds.set j v)))) : rSet (.ref a) (.int i) v G k := by
  show (match G a with
    | some (.lst ds) => isI (.int i) fun i => optK (ixN ds.length i) fun j => k (gup G a (.lst (ds.set j v)))
    | some (.dic kvs) => fits kvs (.int i) = true ∧ kvs.length < sizeLine ∧ k (gup G a (.dic (dput kvs (.int i) v)))
    | _ => False)
  rw [h]
  show optK (ixN ds.length i) _
  rw [g]
  exact q
theorem e_setD {k : Gp → Prop} (h : G a = some (.dic kvs)) (f : fits kvs e = true) (l : kvs.length < sizeLine) (q : k (gup G a (.dic (dput kvs e v)))) : rSet (.ref a) e v G k := by
  show (match G a with
    | some (.lst ds) => isI e fun i => optK (ixN ds.length i) fun j => k (gup G a (.lst (ds.set j v)))
    | some (.dic kvs) => fits kvs e = true ∧ kvs.length < sizeLine ∧ k (gup G a (.dic (dput kvs e v)))
    | _ => False)
  rw [h]
  exact ⟨f, l, q⟩
theorem e_get (h : DicAt G a kvs) (f : fits kvs e = true) (k : q ((dget kvs e).getD v) G) : rGet (.ref a) [e, v] G q := by
  show (match G a with
    | some (.dic kvs) => fits kvs e = true ∧ q ((dget kvs e).getD v) G
    | some (.rdc kvs) => fits kvs e = true ∧ q ((dget kvs e).getD v) G
    | _ => False)
  rcases h with h | h <;> rw [h] <;> exact ⟨f, k⟩
theorem t_lst (h : ListAt G a ds) : tyD "list" (.ref a) G := by
  show (match G a with
    | some (.lst _) => "list" = "list"
    | some (.rol _) => "list" = "list"
    | some (.dic _) => "list" = "dict"
    | some (.rdc _) => "list" = "dict"
    | _ => False)
  rcases h with h | h <;> rw [h]
theorem t_dic (h : DicAt G a kvs) : tyD "dict" (.ref a) G := by
  show (match G a with
    | some (.lst _) => "dict" = "list"
    | some (.rol _) => "dict" = "list"
    | some (.dic _) => "dict" = "dict"
    | some (.rdc _) => "dict" = "dict"
    | _ => False)
  rcases h with h | h <;> rw [h]
theorem e_pop {z : D} (h : G a = some (.lst (ds ++ [z]))) (k : q z (gup G a (.lst ds))) : rPopD (.ref a) [] G q := by
  refine ⟨rfl, ?_⟩
  show (match G a with | some (.lst ds) => optK ds.getLast? fun z => q z (gup G a (.lst ds.dropLast)) | _ => False)
  rw [h]
  show optK (ds ++ [z]).getLast? _
  rw [List.getLast?_append]
  show q z (gup G a (.lst (ds ++ [z]).dropLast))
  rw [List.dropLast_concat]
  exact k
theorem e_app (h : G a = some (.lst ds)) (hl : ds.length < sizeLine) (k : q .non (gup G a (.lst (ds ++ [e])))) : rAppendD (.ref a) [e] G q := by
  show (match G a with | some (.lst ds) => ds.length < sizeLine ∧ q .non (gup G a (.lst (ds ++ [e]))) | _ => False)
  rw [h]
  exact ⟨hl, k⟩
theorem e_ext (h : G a = some (.lst ds)) (h2 : G b = some (.lst es)) (hl : ds.length + es.length ≤ sizeLine) (k : q .non (gup G a (.lst (ds ++ es)))) : rExtendD (.ref a) [.ref b] G q := by
  show (match G a with | some (.lst ds) => (match G b with | some (.lst zs) => ds.length + zs.length ≤ sizeLine ∧ q .non (gup G a (.lst (ds ++ zs))) | _ => False) | _ => False)
  rw [h]
  dsimp only
  rw [h2]
  exact ⟨hl, k⟩
theorem e_len (h : ListAt G a ds) (k : q (.int ds.length) G) : rLen [.ref a] G q := by
  show (match G a with
    | some (.lst es) => q (.int es.length) G
    | some (.rol es) => q (.int es.length) G
    | some (.dic kvs) => q (.int kvs.length) G
    | some (.rdc kvs) => q (.int kvs.length) G
    | _ => False)
  rcases h with h | h <;> rw [h] <;> exact k
theorem e_lenD (h : DicAt G a kvs) (k : q (.int kvs.length) G) : rLen [.ref a] G q := by
  show (match G a with
    | some (.lst es) => q (.int es.length) G
    | some (.rol es) => q (.int es.length) G
    | some (.dic kvs) => q (.int kvs.length) G
    | some (.rdc kvs) => q (.int kvs.length) G
    | _ => False)
  rcases h with h | h <;> rw [h] <;> exact k
theorem e_list (h : ListAt G a ds) (k : newO (.lst ds) q G) : rList [.ref a] G q := by
  show (match G a with
    | some (.lst es) => newO (.lst es) q G
    | some (.rol es) => newO (.lst es) q G
    | some (.dic kvs) => KeysK kvs ∧ newO (.lst (kvs.map (·.1))) q G
    | some (.rdc kvs) => KeysK kvs ∧ newO (.lst (kvs.map (·.1))) q G
    | _ => False)
  rcases h with h | h <;> rw [h] <;> exact k
theorem e_listD (h : DicAt G a kvs) (hk : KeysK kvs) (k : newO (.lst (kvs.map (·.1))) q G) : rList [.ref a] G q := by
  show (match G a with
    | some (.lst es) => newO (.lst es) q G
    | some (.rol es) => newO (.lst es) q G
    | some (.dic kvs) => KeysK kvs ∧ newO (.lst (kvs.map (·.1))) q G
    | some (.rdc kvs) => KeysK kvs ∧ newO (.lst (kvs.map (·.1))) q G
    | _ => False)
  rcases h with h | h <;> rw [h] <;> exact ⟨hk, k⟩
theorem e_tuple (h : ListAt G a ds) (k : q (.tup ds) G) : rTuple [.ref a] G q := by
  show (match G a with
    | some (.lst es) => q (.tup es) G
    | some (.rol es) => q (.tup es) G
    | _ => False)
  rcases h with h | h <;> rw [h] <;> exact k
theorem e_rev {te : TD} {σ : Sd} (h : te σ G fun d G1 => match d with
  | .tup ds => q (.tup ds.reverse) G1
  | .ref a => match G1 a with
    | some (.lst ds) => newO (.lst ds.reverse) q G1
    | some (.rol ds) => newO (.lst ds.reverse) q G1
    | _ => False
  | _ => False) : dRev te σ G q := h
theorem e_revL (h : G a = some (.lst ds)) (k : newO (.lst ds.reverse) q G) : (match D.ref a with
  | .tup ds => q (.tup ds.reverse) G
  | .ref a => match G a with
    | some (.lst ds) => newO (.lst ds.reverse) q G
    | some (.rol ds) => newO (.lst ds.reverse) q G
    | _ => False
  | _ => False) := by
  show (match G a with
    | some (.lst ds) => newO (.lst ds.reverse) q G
    | some (.rol ds) => newO (.lst ds.reverse) q G
    | _ => False)
  rw [h]
  exact k
theorem e_eqStr {x y : Str} {n : Bool} (h : q (.bl (xor n (decide (x = y)))) G) : rEqv n (.str x) (.str y) G q := by
  have e : atomEq (.str x) (.str y) = some (decide (x = y)) := by
    show (if scal (.str x) (.str y) = true then some (decide (V.str x = V.str y)) else none) = _
    have hs : scal (.str x) (.str y) = true := rfl
    rw [if_pos hs]
    congr 1
    by_cases hxy : x = y
    · rw [decide_eq_true hxy, decide_eq_true (congrArg V.str hxy)]
    · rw [decide_eq_false hxy, decide_eq_false (fun h => hxy (V.str.inj h))]
  unfold rEqv
  rw [e]
  exact h
theorem e_eqInt {x y : Int} {n : Bool} (h : q (.bl (xor n (decide (x = y)))) G) : rEqv n (.int x) (.int y) G q := by
  have e : atomEq (.int x) (.int y) = some (decide (x = y)) := by
    show (if scal (.int x) (.int y) = true then some (decide (V.int x = V.int y)) else none) = _
    have hs : scal (.int x) (.int y) = true := rfl
    rw [if_pos hs]
    congr 1
    by_cases hxy : x = y
    · rw [decide_eq_true hxy, decide_eq_true (congrArg V.int hxy)]
    · rw [decide_eq_false hxy, decide_eq_false (fun h => hxy (V.int.inj h))]
  unfold rEqv
  rw [e]
  exact h
theorem e_eqBl {x y : Bool} {n : Bool} (h : q (.bl (xor n (decide (x = y)))) G) : rEqv n (.bl x) (.bl y) G q := by
  have e : atomEq (.bl x) (.bl y) = some (decide (x = y)) := by
    show (if scal (.bl x) (.bl y) = true then some (decide (V.bl x = V.bl y)) else none) = _
    have hs : scal (.bl x) (.bl y) = true := rfl
    rw [if_pos hs]
    congr 1
    by_cases hxy : x = y
    · rw [decide_eq_true hxy, decide_eq_true (congrArg V.bl hxy)]
    · rw [decide_eq_false hxy, decide_eq_false (fun h => hxy (V.bl.inj h))]
  unfold rEqv
  rw [e]
  exact h
theorem e_addI {i j : Int} (k : q (.int (i + j)) G) : rAdd (.int i) (.int j) G q := k
theorem e_addT (hl : ds.length + es.length ≤ sizeLine) (k : q (.tup (ds ++ es)) G) : rAdd (.tup ds) (.tup es) G q := ⟨hl, k⟩
theorem e_addL (h : G a = some (.lst ds)) (h2 : G b = some (.lst es)) (hl : ds.length + es.length ≤ sizeLine) (k : newO (.lst (ds ++ es)) q G) : rAdd (.ref a) (.ref b) G q := by
  show (match G a, G b with
    | some (.lst ds), some (.lst es) => ds.length + es.length ≤ sizeLine ∧ newO (.lst (ds ++ es)) q G
    | _, _ => False)
  rw [h, h2]
  exact ⟨hl, k⟩
theorem e_mulI {i j : Int} (c : CMul i j) (k : q (.int (i * j)) G) : rMul (.int i) (.int j) G q := ⟨c, k⟩
end
/-! ### empty lists; a list of ints against the empty one -/
theorem dats_length : ∀ {ds : List D} {ps : List PyData}, dats ds = some ps → ps.length = ds.length
  | [], ps, h => by cases h; rfl
  | d :: ds, ps, h => by
    have h : (match dat d, dats ds with | some p, some ps => some (p :: ps) | _, _ => none) = some ps := h
    cases e1 : dat d with
    | none => rw [e1] at h; cases h
    | some p =>
      cases e2 : dats ds with
      | none => rw [e1, e2] at h; cases h
      | some qs =>
        rw [e1, e2] at h
        cases h
        rw [List.length_cons, List.length_cons, dats_length e2]
theorem e_neNil {G : Gp} {a p : Addr} {ds : List D} {ps : List PyData} {q : QD} {n : Bool} (h : G a = some (.lst ds)) (hd : dats ds = some ps) (hs : SeqAt.shaped (.list ps) = true) (hp : G p = some (.lst [])) (k : q (.bl (xor n ds.isEmpty)) G) : rEqv n (.ref a) (.ref p) G q := by
  have e1 : datG G (.ref a) = some (.list ps) := by
    show (match G a with | some (.lst ds) => (dats ds).map PyData.list | some (.rol ds) => (dats ds).map PyData.list | _ => none) = _
    rw [h]
    show (dats ds).map PyData.list = _
    rw [hd]
    rfl
  have e2 : datG G (.ref p) = some (.list []) := by
    show (match G p with | some (.lst ds) => (dats ds).map PyData.list | some (.rol ds) => (dats ds).map PyData.list | _ => none) = _
    rw [hp]
    rfl
  have e0 : atomEq (.ref a) (.ref p) = none := rfl
  have e3 : PyData.eqv (.list ps) (.list []) = ds.isEmpty := by
    have := dats_length hd
    cases ps with
    | nil =>
      have : ds = [] := List.length_eq_zero_iff.mp (by simpa using this.symm)
      subst this
      simp [PyData.eqv, PyData.eqvAll]
    | cons p ps =>
      cases ds with
      | nil => simp at this
      | cons d ds => simp [PyData.eqv, PyData.eqvAll]
  unfold rEqv
  rw [e0, e1, e2]
  refine ⟨hs, by decide, ?_⟩
  rw [e3]
  exact k
theorem dats_ints : ∀ zs : List Int, dats (zs.map D.int) = some (zs.map PyData.int)
  | [] => rfl
  | z :: r => by
    show (match dat (.int z), dats (r.map D.int) with | some p, some ps => some (p :: ps) | _, _ => none) = _
    rw [dats_ints r]
    rfl
theorem ints_lay : ∀ zs : List Int, PyData.canLayAll0 (zs.map PyData.int) = true
  | [] => by simp [PyData.canLayAll0]
  | z :: zs => by simp [PyData.canLayAll0, PyData.canLay0, ints_lay zs]
theorem ints_depth : ∀ zs : List Int, PyData.depthAll (zs.map PyData.int) ≤ 0
  | [] => by simp [PyData.depthAll]
  | z :: zs => by
    have h1 := ints_depth zs
    simp only [List.map_cons, PyData.depthAll, PyData.depth]
    omega
theorem ints_shaped (zs : List Int) : SeqAt.shaped (.list (zs.map .int)) = true := by
  have h1 := ints_depth zs
  have h2 : PyData.depth (.list (zs.map .int)) ≤ 64 := by
    simp only [PyData.depth]
    omega
  show (PyData.canLay0 (.list (zs.map .int)) && decide (PyData.depth (.list (zs.map .int)) ≤ 64)) = true
  rw [Bool.and_eq_true]
  exact ⟨by simp only [PyData.canLay0]; exact ints_lay zs, decide_eq_true h2⟩
/-- numbers -/
def nD (n : Nat) : D := .int (n : Nat)
abbrev il (ns : List Nat) : List D := ns.map nD
theorem il_ints (ns : List Nat) : il ns = (ns.map fun n : Nat => (n : Int)).map D.int := by
  rw [List.map_map]
  rfl
theorem e_neNilI {G : Gp} {a p : Addr} {ns : List Nat} {q : QD} {n : Bool} (h : G a = some (.lst (il ns))) (hp : G p = some (.lst [])) (k : q (.bl (xor n ns.isEmpty)) G) : rEqv n (.ref a) (.ref p) G q := by
  refine e_neNil h (by rw [il_ints]; exact dats_ints _) (ints_shaped _) hp ?_
  cases ns <;> exact k
theorem atI_nat {α : Type} {xs : List α} {i : Nat} {v : α} (h : xs[i]? = some v) : atI xs (i : Nat) = some v := by
  have hl := (List.getElem?_eq_some_iff.mp h).1
  have e : ixN xs.length (i : Nat) = some i := by
    unfold ixN
    rw [if_pos (by omega), if_pos (by exact_mod_cast hl)]
    rfl
  show ((ixN xs.length (i : Nat)).bind fun j => xs[j]?) = _
  rw [e]
  exact h
theorem ixN_nat {n i : Nat} (h : i < n) : ixN n (i : Nat) = some i := by
  unfold ixN
  rw [if_pos (by omega), if_pos (by exact_mod_cast h)]
  rfl
/-! ### dicts by keys that a function writes -/
structure KeyFn {κ : Type} [DecidableEq κ] (K : κ → D) : Prop where
  eq : ∀ a b, keyEq (K a) (K b) = decide (a = b)
  ok : ∀ a, okKey (K a) = true
  al : (∀ a, ∃ ds, K a = .tup ds) ∨ ∀ a, ∃ k, K a = kD k
def kd {κ α : Type} (K : κ → D) (V : α → D) (m : List (κ × α)) : List (D × D) := m.map fun p => (K p.1, V p.2)
def aget {κ α : Type} [DecidableEq κ] (m : List (κ × α)) (k : κ) : Option α := (m.find? fun p => decide (p.1 = k)).map (·.2)
def aput {κ α : Type} [DecidableEq κ] (m : List (κ × α)) (k : κ) (v : α) : List (κ × α) := if m.any (fun p => decide (p.1 = k)) then m.map (fun p => if p.1 = k then (p.1, v) else p) else m ++ [(k, v)]
section
variable {κ α : Type} [DecidableEq κ] {K : κ → D} {V : α → D}
theorem kd_len {m : List (κ × α)} : (kd K V m).length = m.length := by unfold kd; simp
theorem kd_keys {m : List (κ × α)} : (kd K V m).map (·.1) = (m.map (·.1)).map K := by
  unfold kd
  rw [List.map_map, List.map_map]
  rfl
theorem kd_fits (h : KeyFn K) (m : List (κ × α)) (k : κ) : fits (kd K V m) (K k) = true := by
  unfold fits
  rw [h.ok k, Bool.true_and, List.all_eq_true]
  intro p hp
  unfold kd at hp
  obtain ⟨x, _, rfl⟩ := List.mem_map.mp hp
  dsimp only
  rcases h.al with al | al
  · obtain ⟨d1, e1⟩ := al x.1
    obtain ⟨d2, e2⟩ := al k
    rw [e1, e2]
  · obtain ⟨k1, e1⟩ := al x.1
    obtain ⟨k2, e2⟩ := al k
    rw [e1, e2]
    cases k1 <;> cases k2 <;> rfl
theorem kd_get (h : KeyFn K) : ∀ (m : List (κ × α)) (k : κ), dget (kd K V m) (K k) = (aget m k).map V
  | [], k => rfl
  | p :: m, k => by
    have ih := kd_get h m k
    unfold dget aget kd at ih ⊢
    rw [List.map_cons, List.find?_cons, List.find?_cons]
    dsimp only
    rw [h.eq]
    by_cases e : p.1 = k
    · rw [decide_eq_true e]
      rfl
    · rw [decide_eq_false e]
      exact ih
theorem kd_any (h : KeyFn K) : ∀ (m : List (κ × α)) (k : κ), (kd K V m).any (fun p => keyEq p.1 (K k)) = m.any (fun p => decide (p.1 = k))
  | [], k => rfl
  | p :: m, k => by
    have ih := kd_any h m k
    unfold kd at ih ⊢
    rw [List.map_cons, List.any_cons, List.any_cons, ih, h.eq]
theorem kd_put (h : KeyFn K) (m : List (κ × α)) (k : κ) (v : α) : dput (kd K V m) (K k) (V v) = kd K V (aput m k v) := by
  unfold dput aput
  rw [kd_any h]
  cases m.any (fun p => decide (p.1 = k)) with
  | true =>
    simp only [if_true]
    unfold kd
    rw [List.map_map, List.map_map]
    refine List.map_congr_left fun p _ => ?_
    show (if keyEq (K p.1) (K k) = true then (K p.1, V v) else (K p.1, V p.2)) = _
    rw [h.eq]
    show _ = (K (if p.1 = k then (p.1, v) else p).1, V (if p.1 = k then (p.1, v) else p).2)
    by_cases e : p.1 = k
    · rw [decide_eq_true e, if_pos rfl, if_pos e]
    · rw [decide_eq_false e, if_neg Bool.false_ne_true, if_neg e]
  | false =>
    simp only [if_false, Bool.false_eq_true]
    unfold kd
    rw [List.map_append]
    rfl
theorem aget_put (m : List (κ × α)) (k l : κ) (v : α) : aget (aput m k v) l = if k = l then some v else aget m l := by
  unfold aput
  by_cases ha : m.any (fun p => decide (p.1 = k)) = true
  · rw [if_pos ha]
    induction m with
    | nil => cases ha
    | cons p m ih =>
      rw [List.any_cons, Bool.or_eq_true] at ha
      unfold aget at ih ⊢
      rw [List.map_cons, List.find?_cons, List.find?_cons]
      by_cases e : p.1 = k
      · rw [if_pos e]
        dsimp only
        by_cases e2 : k = l
        · rw [decide_eq_true (e.trans e2), if_pos e2]
          rfl
        · rw [decide_eq_false (fun z => e2 (e.symm.trans z)), if_neg e2]
          by_cases hm : m.any (fun p => decide (p.1 = k)) = true
          · have := ih hm
            rw [if_neg e2] at this
            exact this
          · have all : ∀ p ∈ m, ¬ p.1 = k := by
              intro p hp z
              exact hm (List.any_eq_true.mpr ⟨p, hp, decide_eq_true z⟩)
            have em : m.map (fun p => if p.1 = k then (p.1, v) else p) = m := by
              have h1 : m.map (fun p => if p.1 = k then (p.1, v) else p) = m.map id := List.map_congr_left fun p hp => if_neg (all p hp)
              rw [h1, List.map_id]
            rw [em]
      · rw [if_neg e]
        have hm : m.any (fun p => decide (p.1 = k)) = true := by
          rcases ha with ha | ha
          · exact absurd (of_decide_eq_true ha) e
          · exact ha
        have := ih hm
        by_cases e2 : p.1 = l
        · rw [decide_eq_true e2]
          have : ¬ k = l := fun z => e (e2.trans z.symm)
          rw [if_neg this]
        · rw [decide_eq_false e2]
          exact this
  · rw [if_neg ha]
    unfold aget
    rw [List.find?_append]
    by_cases e : k = l
    · subst e
      have : m.find? (fun p => decide (p.1 = k)) = none := by
        rw [List.find?_eq_none]
        intro p hp z
        exact ha (List.any_eq_true.mpr ⟨p, hp, z⟩)
      rw [this, if_pos rfl]
      show (Option.or none _).map _ = _
      simp
    · rw [if_neg e]
      show (Option.or _ (List.find? _ [(k, v)])).map _ = _
      rw [List.find?_cons]
      dsimp only
      rw [decide_eq_false e]
      simp
theorem aput_new {m : List (κ × α)} {k : κ} {v : α} (h : aget m k = none) : aput m k v = m ++ [(k, v)] := by
  unfold aput
  have : ¬ m.any (fun p => decide (p.1 = k)) = true := by
    intro z
    obtain ⟨p, hp, e⟩ := List.any_eq_true.mp z
    unfold aget at h
    rw [Option.map_eq_none_iff, List.find?_eq_none] at h
    exact h p hp e
  rw [if_neg this]
theorem aget_none {m : List (κ × α)} {k : κ} : aget m k = none ↔ k ∉ m.map (·.1) := by
  unfold aget
  rw [Option.map_eq_none_iff, List.find?_eq_none]
  constructor
  · intro h z
    obtain ⟨p, hp, e⟩ := List.mem_map.mp z
    exact h p hp (decide_eq_true e)
  · intro h p hp z
    exact h (List.mem_map.mpr ⟨p, hp, of_decide_eq_true z⟩)
theorem aget_isSome {m : List (κ × α)} {k : κ} : (aget m k).isSome = decide (k ∈ m.map (·.1)) := by
  cases e : aget m k with
  | none => rw [decide_eq_false (aget_none.mp e)]; rfl
  | some v =>
    have : k ∈ m.map (·.1) := by
      refine Decidable.byContradiction fun z => ?_
      rw [aget_none.mpr z] at e
      cases e
    rw [decide_eq_true this]
    rfl
theorem aput_keys (m : List (κ × α)) (k : κ) (v : α) : (aput m k v).map (·.1) = if k ∈ m.map (·.1) then m.map (·.1) else m.map (·.1) ++ [k] := by
  unfold aput
  by_cases h : m.any (fun p => decide (p.1 = k)) = true
  · have hk : k ∈ m.map (·.1) := by
      obtain ⟨p, hp, e⟩ := List.any_eq_true.mp h
      exact List.mem_map.mpr ⟨p, hp, of_decide_eq_true e⟩
    rw [if_pos h, if_pos hk, List.map_map]
    refine List.map_congr_left fun p _ => ?_
    show (if p.1 = k then (p.1, v) else p).1 = p.1
    split <;> rfl
  · have hk : k ∉ m.map (·.1) := by
      intro z
      obtain ⟨p, hp, e⟩ := List.mem_map.mp z
      exact h (List.any_eq_true.mpr ⟨p, hp, decide_eq_true e⟩)
    rw [if_neg h, if_neg hk, List.map_append]
    rfl
end
theorem key_nat : KeyFn nD where
  eq := fun a b => by
    unfold keyEq nD
    show decide (some (NestedKey.num (a : Int)) = some (NestedKey.num (b : Int))) = _
    by_cases e : a = b
    · subst e; simp
    · rw [decide_eq_false e, decide_eq_false]
      intro z
      injection z with z
      injection z with z
      omega
  ok := fun _ => rfl
  al := .inr fun a => ⟨.inl (a : Int), rfl⟩
theorem kd_nat {α : Type} {V : α → D} (m : List (Nat × α)) : KeysK (kd nD V m) := fun p hp => by
  obtain ⟨z, _, rfl⟩ := List.mem_map.mp hp
  exact ⟨.inl (z.1 : Int), rfl⟩
theorem kd_str {α : Type} {V : α → D} (m : List (Str × α)) : KeysK (kd D.str V m) := fun p hp => by
  obtain ⟨z, _, rfl⟩ := List.mem_map.mp hp
  exact ⟨.inr z.1, rfl⟩
theorem key_str : KeyFn D.str where
  eq := fun a b => by
    unfold keyEq
    show decide (some (NestedKey.text a) = some (NestedKey.text b)) = _
    by_cases e : a = b
    · subst e; simp
    · rw [decide_eq_false e, decide_eq_false]
      intro z
      injection z with z
      injection z with z
      exact e z
  ok := fun _ => rfl
  al := .inr fun a => ⟨.inr a, rfl⟩
end DL
/-! M1: rows that write values: what is the same, walks depth first, the least sheet; no program in sight. -/
namespace DL.M
/-- side by side -/
inductive F2 {α β : Type} (R : α → β → Prop) : List α → List β → Prop
  | nil : F2 R [] []
  | cons {a b as bs} : R a b → F2 R as bs → F2 R (a :: as) (b :: bs)
section
variable {α β γ δ : Type}
theorem F2.imp {R S : α → β → Prop} (h : ∀ a b, R a b → S a b) {as : List α} {bs : List β} (f : F2 R as bs) : F2 S as bs := by
  induction f with
  | nil => exact .nil
  | cons a t ih => exact .cons (h _ _ a) ih
theorem F2.impM {R S : α → β → Prop} {as : List α} {bs : List β} (f : F2 R as bs) (h : ∀ a ∈ as, ∀ b ∈ bs, R a b → S a b) : F2 S as bs := by
  induction f with
  | nil => exact .nil
  | cons a t ih => exact .cons (h _ List.mem_cons_self _ List.mem_cons_self a) (ih fun x hx y hy => h x (List.mem_cons_of_mem _ hx) y (List.mem_cons_of_mem _ hy))
theorem F2.len {R : α → β → Prop} {as : List α} {bs : List β} (f : F2 R as bs) : as.length = bs.length := by
  induction f with
  | nil => rfl
  | cons a t ih => rw [List.length_cons, List.length_cons, ih]
theorem F2.refl {R : α → α → Prop} {as : List α} (h : ∀ a ∈ as, R a a) : F2 R as as := by
  induction as with
  | nil => exact .nil
  | cons a t ih => exact .cons (h a List.mem_cons_self) (ih fun x hx => h x (List.mem_cons_of_mem _ hx))
theorem F2.symm {R : α → β → Prop} {as : List α} {bs : List β} (f : F2 R as bs) : F2 (fun b a => R a b) bs as := by
  induction f with
  | nil => exact .nil
  | cons a t ih => exact .cons a ih
theorem F2.comp {R : α → β → Prop} {S : β → γ → Prop} {as : List α} {bs : List β} {cs : List γ} (f : F2 R as bs) (g : F2 S bs cs) : F2 (fun a c => ∃ b, R a b ∧ S b c) as cs := by
  induction f generalizing cs with
  | nil => cases g; exact .nil
  | cons a t ih =>
    cases g with
    | cons b u => exact .cons ⟨_, a, b⟩ (ih u)
theorem F2.map {f : α → γ} {g : β → δ} {R : γ → δ → Prop} {as : List α} {bs : List β} : F2 R (as.map f) (bs.map g) ↔ F2 (fun a b => R (f a) (g b)) as bs := by
  constructor
  · intro h
    induction as generalizing bs with
    | nil =>
      cases bs with
      | nil => exact .nil
      | cons b bs => cases h
    | cons a as ih =>
      cases bs with
      | nil => cases h
      | cons b bs =>
        cases h with
        | cons x y => exact .cons x (ih y)
  · intro h
    induction h with
    | nil => exact .nil
    | cons a t ih => exact .cons a ih
theorem F2.mapR {g : β → δ} {R : α → δ → Prop} {as : List α} {bs : List β} : F2 R as (bs.map g) ↔ F2 (fun a b => R a (g b)) as bs := by
  have := F2.map (f := fun a : α => a) (g := g) (R := R) (as := as) (bs := bs)
  simpa using this
theorem F2.mapL {f : α → γ} {R : γ → β → Prop} {as : List α} {bs : List β} : F2 R (as.map f) bs ↔ F2 (fun a b => R (f a) b) as bs := by
  have := F2.map (f := f) (g := fun b : β => b) (R := R) (as := as) (bs := bs)
  simpa using this
theorem F2.eq {as bs : List α} (f : F2 (fun a b => a = b) as bs) : as = bs := by
  induction f with
  | nil => rfl
  | cons a t ih => rw [a, ih]
theorem F2.map_eq {f : α → γ} {g : β → γ} {as : List α} {bs : List β} (h : F2 (fun a b => f a = g b) as bs) : as.map f = bs.map g := (F2.map.mpr h).eq
theorem F2.of_map {f : α → γ} {g : β → γ} {as : List α} {bs : List β} (h : as.map f = bs.map g) : F2 (fun a b => f a = g b) as bs :=
  F2.map.mp (by rw [h]; exact F2.refl fun _ _ => rfl)
theorem F2.app {R : α → β → Prop} {as cs : List α} {bs ds : List β} (f : F2 R as bs) (g : F2 R cs ds) : F2 R (as ++ cs) (bs ++ ds) := by
  induction f with
  | nil => exact g
  | cons a t ih => exact .cons a ih
theorem F2.get {R : α → β → Prop} {as : List α} {bs : List β} (f : F2 R as bs) : ∀ {i : Nat} {a : α} {b : β}, as[i]? = some a → bs[i]? = some b → R a b := by
  induction f with
  | nil => intro i a b h; simp at h
  | cons x t ih =>
    intro i a b h1 h2
    cases i with
    | zero =>
      simp at h1 h2
      subst h1; subst h2
      exact x
    | succ i => exact ih (by simpa using h1) (by simpa using h2)
theorem F2.memL {R : α → β → Prop} {as : List α} {bs : List β} (f : F2 R as bs) {a : α} (h : a ∈ as) : ∃ b ∈ bs, R a b := by
  induction f with
  | nil => cases h
  | cons x t ih =>
    rcases List.mem_cons.mp h with rfl | h
    · exact ⟨_, List.mem_cons_self, x⟩
    · obtain ⟨b, hb, r⟩ := ih h
      exact ⟨b, List.mem_cons_of_mem _ hb, r⟩
theorem F2.memR {R : α → β → Prop} {as : List α} {bs : List β} (f : F2 R as bs) {b : β} (h : b ∈ bs) : ∃ a ∈ as, R a b := f.symm.memL h
end

abbrev Gr (τ : Type) := Nat → Option (τ × List Nat)
section
variable {τ : Type}
structure IsBis (g g' : Gr τ) (R : Nat → Nat → Prop) : Prop where
  step : ∀ a b, R a b → ∃ t fs fs', g a = some (t, fs) ∧ g' b = some (t, fs') ∧ F2 R fs fs'
/-- two rows write the same -/
def Bis (g : Gr τ) (a : Nat) (g' : Gr τ) (b : Nat) : Prop := ∃ R, IsBis g g' R ∧ R a b
theorem Bis.step {g g' : Gr τ} {a b : Nat} (h : Bis g a g' b) : ∃ t fs fs', g a = some (t, fs) ∧ g' b = some (t, fs') ∧ F2 (fun x y => Bis g x g' y) fs fs' := by
  obtain ⟨R, hR, h⟩ := h
  obtain ⟨t, fs, fs', e1, e2, f⟩ := hR.step a b h
  exact ⟨t, fs, fs', e1, e2, f.imp fun x y r => ⟨R, hR, r⟩⟩
theorem Bis.symm {g g' : Gr τ} {a b : Nat} (h : Bis g a g' b) : Bis g' b g a := by
  obtain ⟨R, hR, h⟩ := h
  refine ⟨fun x y => R y x, ⟨fun x y r => ?_⟩, h⟩
  obtain ⟨t, fs, fs', e1, e2, f⟩ := hR.step y x r
  exact ⟨t, fs', fs, e2, e1, f.symm⟩
theorem Bis.trans {g g' g'' : Gr τ} {a b c : Nat} (h : Bis g a g' b) (k : Bis g' b g'' c) : Bis g a g'' c := by
  refine ⟨fun x z => ∃ y, Bis g x g' y ∧ Bis g' y g'' z, ⟨fun x z ⟨y, r, s⟩ => ?_⟩, b, h, k⟩
  obtain ⟨t, fs, fs', e1, e2, f⟩ := r.step
  obtain ⟨t', gs, gs', e3, e4, f'⟩ := s.step
  rw [e2] at e3
  cases e3
  exact ⟨t, fs, gs', e1, e4, f.comp f'⟩
/-- rows that lead nowhere else -/
def Closed (g : Gr τ) (S : Nat → Prop) : Prop := ∀ a, S a → ∃ t fs, g a = some (t, fs) ∧ ∀ f ∈ fs, S f
theorem Closed.bis {g : Gr τ} {S : Nat → Prop} (c : Closed g S) {a : Nat} (h : S a) : Bis g a g a := by
  refine ⟨fun x y => S x ∧ x = y, ⟨fun x y ⟨s, e⟩ => ?_⟩, h, rfl⟩
  subst e
  obtain ⟨t, fs, e1, hf⟩ := c x s
  exact ⟨t, fs, fs, e1, e1, F2.refl fun f m => ⟨hf f m, rfl⟩⟩
def fld (g : Gr τ) (a : Nat) : List Nat := match g a with
  | some (_, fs) => fs
  | none => []
theorem fld_of {g : Gr τ} {a : Nat} {t : τ} {fs : List Nat} (h : g a = some (t, fs)) : fld g a = fs := by
  unfold fld
  rw [h]
def gr (rows : List (τ × List Nat)) : Gr τ := fun i => rows[i]?
end

/-! ### depth-first walks -/
section
/-- one turn of a depth-first walk: what waits, what was met; κ tells what is one -/
def turn (f : Nat → List Nat) (κ : Nat → Nat) : List Nat × List Nat → List Nat × List Nat
  | ([], o) => ([], o)
  | (a :: t, o) => if κ a ∈ o.map κ then (t, o) else (f a ++ t, o ++ [a])
def goes (f : Nat → List Nat) (κ : Nat → Nat) : Nat → List Nat × List Nat → List Nat × List Nat
  | 0, s => s
  | n + 1, s => goes f κ n (turn f κ s)
variable {f : Nat → List Nat} {κ : Nat → Nat}
theorem goes_add (n m : Nat) (s : List Nat × List Nat) : goes f κ (n + m) s = goes f κ m (goes f κ n s) := by
  induction n generalizing s with
  | zero => rw [Nat.zero_add]; rfl
  | succ n ih =>
    rw [Nat.succ_add]
    exact ih _
theorem goes_succ (n : Nat) (s : List Nat × List Nat) : goes f κ (n + 1) s = turn f κ (goes f κ n s) := goes_add n 1 s
theorem goes_nil (n : Nat) (o : List Nat) : goes f κ n ([], o) = ([], o) := by
  induction n with
  | zero => rfl
  | succ n ih => exact ih
/-- the walk has come there -/
def Come (f : Nat → List Nat) (κ : Nat → Nat) (r : Nat) (t o : List Nat) : Prop := ∃ n, goes f κ n ([r], []) = (t, o)
theorem Come.start {r : Nat} : Come f κ r [r] [] := ⟨0, rfl⟩
theorem Come.skip {r a : Nat} {t o : List Nat} (h : Come f κ r (a :: t) o) (m : κ a ∈ o.map κ) : Come f κ r t o := by
  obtain ⟨n, h⟩ := h
  refine ⟨n + 1, ?_⟩
  rw [goes_succ, h]
  show (if _ then _ else _) = _
  rw [if_pos m]
theorem Come.new {r a : Nat} {t o : List Nat} (h : Come f κ r (a :: t) o) (m : κ a ∉ o.map κ) : Come f κ r (f a ++ t) (o ++ [a]) := by
  obtain ⟨n, h⟩ := h
  refine ⟨n + 1, ?_⟩
  rw [goes_succ, h]
  show (if _ then _ else _) = _
  rw [if_neg m]
/-- what holds at the start and is kept holds wherever the walk comes -/
theorem Come.ind {r : Nat} {P : List Nat → List Nat → Prop} (h0 : P [r] []) (hs : ∀ a t o, P (a :: t) o → κ a ∈ o.map κ → P t o) (hn : ∀ a t o, P (a :: t) o → κ a ∉ o.map κ → P (f a ++ t) (o ++ [a])) {t o : List Nat} (h : Come f κ r t o) : P t o := by
  obtain ⟨n, h⟩ := h
  have all : ∀ n, ∀ t o, goes f κ n ([r], []) = (t, o) → P t o := by
    intro n
    induction n with
    | zero => intro t o e; cases e; exact h0
    | succ n ih =>
      intro t o e
      rw [goes_succ] at e
      cases e1 : goes f κ n ([r], []) with
      | mk t1 o1 =>
        rw [e1] at e
        have p := ih t1 o1 e1
        cases t1 with
        | nil => cases e; exact p
        | cons a t1 =>
          have e : (if κ a ∈ o1.map κ then (t1, o1) else (f a ++ t1, o1 ++ [a])) = (t, o) := e
          split at e
          · cases e; exact hs a _ _ p (by assumption)
          · cases e; exact hn a _ _ p (by assumption)
  exact all n t o h
theorem Come.nodup {r : Nat} {t o : List Nat} (h : Come f κ r t o) : (o.map κ).Nodup := by
  refine Come.ind (P := fun _ o => (o.map κ).Nodup) List.nodup_nil (fun _ _ _ p _ => p) (fun a t o p m => ?_) h
  rw [List.map_append, List.nodup_append]
  refine ⟨p, by simp, ?_⟩
  intro x hx y hy
  have : y = κ a := by simpa using hy
  subst this
  rintro rfl
  exact m hx
theorem Come.all {r : Nat} {S : Nat → Prop} (hr : S r) (hc : ∀ a, S a → ∀ x ∈ f a, S x) {t o : List Nat} (h : Come f κ r t o) : (∀ a ∈ t, S a) ∧ ∀ a ∈ o, S a := by
  refine Come.ind (P := fun t o => (∀ a ∈ t, S a) ∧ ∀ a ∈ o, S a) ⟨by simpa using hr, by simp⟩ (fun a t o p _ => ⟨fun x hx => p.1 x (List.mem_cons_of_mem _ hx), p.2⟩) (fun a t o p _ => ?_) h
  have ha := p.1 a List.mem_cons_self
  refine ⟨fun x hx => ?_, fun x hx => ?_⟩
  · rcases List.mem_append.mp hx with hx | hx
    · exact hc a ha x hx
    · exact p.1 x (List.mem_cons_of_mem _ hx)
  · rcases List.mem_append.mp hx with hx | hx
    · exact p.2 x hx
    · have : x = a := by simpa using hx
      subst this
      exact ha
/-- what was met leads to what was met or waits -/
theorem Come.leads {r : Nat} {t o : List Nat} (h : Come f κ r t o) : (κ r ∈ o.map κ ∨ r ∈ t) ∧ ∀ a ∈ o, ∀ x ∈ f a, κ x ∈ o.map κ ∨ x ∈ t := by
  refine Come.ind (P := fun t o => (κ r ∈ o.map κ ∨ r ∈ t) ∧ ∀ a ∈ o, ∀ x ∈ f a, κ x ∈ o.map κ ∨ x ∈ t) ⟨.inr List.mem_cons_self, by simp⟩ (fun a t o p m => ?_) (fun a t o p m => ?_) h
  · have go : ∀ x, (κ x ∈ o.map κ ∨ x ∈ a :: t) → κ x ∈ o.map κ ∨ x ∈ t := by
      intro x hx
      rcases hx with hx | hx
      · exact .inl hx
      · rcases List.mem_cons.mp hx with rfl | hx
        · exact .inl m
        · exact .inr hx
    exact ⟨go r p.1, fun b hb x hx => go x (p.2 b hb x hx)⟩
  · have go : ∀ x, (κ x ∈ o.map κ ∨ x ∈ a :: t) → κ x ∈ (o ++ [a]).map κ ∨ x ∈ f a ++ t := by
      intro x hx
      rw [List.map_append]
      rcases hx with hx | hx
      · exact .inl (List.mem_append_left _ hx)
      · rcases List.mem_cons.mp hx with rfl | hx
        · exact .inl (List.mem_append_right _ (by simp))
        · exact .inr (List.mem_append_right _ hx)
    refine ⟨go r p.1, fun b hb x hx => ?_⟩
    rcases List.mem_append.mp hb with hb | hb
    · exact go x (p.2 b hb x hx)
    · have : b = a := by simpa using hb
      subst this
      exact .inr (List.mem_append_left _ hx)
theorem Come.head {r : Nat} {t o : List Nat} (h : Come f κ r t o) (hr : κ r ∈ o.map κ) : o.head? = some r := by
  have : (o = [] ∧ t = [r]) ∨ o.head? = some r := by
    refine Come.ind (P := fun t o => (o = [] ∧ t = [r]) ∨ o.head? = some r) (.inl ⟨rfl, rfl⟩) (fun a t o p m => ?_) (fun a t o p m => ?_) h
    · rcases p with ⟨p, _⟩ | p
      · subst p; simp at m
      · exact .inr p
    · rcases p with ⟨p, q⟩ | p
      · subst p
        cases q
        exact .inr rfl
      · exact .inr (by rw [List.head?_append, p]; rfl)
  rcases this with ⟨p, _⟩ | p
  · subst p; simp at hr
  · exact p
theorem mem_map_iff {α β : Type} {f : α → β} {l : List α} {b : β} : b ∈ l.map f ↔ ∃ a ∈ l, f a = b := List.mem_map
/-- two walks side by side -/
theorem goes_sim {f' : Nat → List Nat} {κ' : Nat → Nat} {R : Nat → Nat → Prop} (hf : ∀ a b, R a b → F2 R (f a) (f' b)) (hk : ∀ a b x y, R a b → R x y → (κ a = κ x ↔ κ' b = κ' y)) :
    ∀ n t t' o o', F2 R t t' → F2 R o o' → F2 R (goes f κ n (t, o)).1 (goes f' κ' n (t', o')).1 ∧ F2 R (goes f κ n (t, o)).2 (goes f' κ' n (t', o')).2 := by
  intro n
  induction n with
  | zero => intro t t' o o' h1 h2; exact ⟨h1, h2⟩
  | succ n ih =>
    intro t t' o o' h1 h2
    show F2 R (goes f κ n (turn f κ (t, o))).1 (goes f' κ' n (turn f' κ' (t', o'))).1 ∧ F2 R (goes f κ n (turn f κ (t, o))).2 (goes f' κ' n (turn f' κ' (t', o'))).2
    cases h1 with
    | nil => exact ih [] [] o o' .nil h2
    | cons ab h1 =>
      rename_i a b t t'
      have iff : κ a ∈ o.map κ ↔ κ' b ∈ o'.map κ' := by
        constructor
        · intro m
          obtain ⟨x, hx, e⟩ := List.mem_map.mp m
          obtain ⟨y, hy, r⟩ := h2.memL hx
          exact List.mem_map.mpr ⟨y, hy, (hk x y a b r ab).mp e⟩
        · intro m
          obtain ⟨y, hy, e⟩ := List.mem_map.mp m
          obtain ⟨x, hx, r⟩ := h2.memR hy
          exact List.mem_map.mpr ⟨x, hx, (hk x y a b r ab).mpr e⟩
      unfold turn
      dsimp only
      by_cases m : κ a ∈ o.map κ
      · rw [if_pos m, if_pos (iff.mp m)]
        exact ih _ _ _ _ h1 h2
      · rw [if_neg m, if_neg (fun z => m (iff.mpr z))]
        exact ih _ _ _ _ ((hf a b ab).app h1) (h2.app (.cons ab .nil))
theorem Come.sim {f' : Nat → List Nat} {κ' : Nat → Nat} {R : Nat → Nat → Prop} {r r' : Nat} {o o' : List Nat} (hf : ∀ a b, R a b → F2 R (f a) (f' b)) (hk : ∀ a b x y, R a b → R x y → (κ a = κ x ↔ κ' b = κ' y)) (hr : R r r')
    (h : Come f κ r [] o) (h' : Come f' κ' r' [] o') : F2 R o o' := by
  obtain ⟨n, h⟩ := h
  obtain ⟨m, h'⟩ := h'
  have h1 : goes f κ (n + m) ([r], []) = ([], o) := by rw [goes_add, h, goes_nil]
  have h2 : goes f' κ' (n + m) ([r'], []) = ([], o') := by rw [Nat.add_comm, goes_add, h', goes_nil]
  have := (goes_sim hf hk (n + m) [r] [r'] [] [] (.cons hr .nil) .nil).2
  rw [h1, h2] at this
  exact this
theorem Come.sim1 {f' : Nat → List Nat} {κ' : Nat → Nat} {R : Nat → Nat → Prop} {r r' : Nat} {o : List Nat} (hf : ∀ a b, R a b → F2 R (f a) (f' b)) (hk : ∀ a b x y, R a b → R x y → (κ a = κ x ↔ κ' b = κ' y)) (hr : R r r')
    (h : Come f κ r [] o) : ∃ o', Come f' κ' r' [] o' ∧ F2 R o o' := by
  obtain ⟨n, h⟩ := h
  have := goes_sim hf hk n [r] [r'] [] [] (.cons hr .nil) .nil
  rw [h] at this
  obtain ⟨h1, h2⟩ := this
  cases e : goes f' κ' n ([r'], []) with
  | mk t' o' =>
    rw [e] at h1 h2
    cases h1
    exact ⟨o', ⟨n, e⟩, h2⟩
end

/-! ### the least sheet -/
section
variable {τ : Type}
structure IsLeast (g : Gr τ) (r : Nat) (rows : List (τ × List Nat)) : Prop where
  ok : ∀ (i : Nat) t fs, rows[i]? = some (t, fs) → ∀ f ∈ fs, f < rows.length
  bis : Bis g r (gr rows) 0
  sep : ∀ i j, i < rows.length → j < rows.length → Bis (gr rows) i (gr rows) j → i = j
  ord : Come (fld (gr rows)) id 0 [] (List.range rows.length)
theorem gr_closed {rows : List (τ × List Nat)} (ok : ∀ (i : Nat) t fs, rows[i]? = some (t, fs) → ∀ f ∈ fs, f < rows.length) : Closed (gr rows) (· < rows.length) := fun a h =>
  ⟨rows[a].1, rows[a].2, List.getElem?_eq_getElem h, ok a _ _ (List.getElem?_eq_getElem h)⟩
theorem Bis.lt {g : Gr τ} {rows : List (τ × List Nat)} {a i : Nat} (h : Bis g a (gr rows) i) : i < rows.length := by
  obtain ⟨t, fs, fs', _, e, _⟩ := h.step
  exact (List.getElem?_eq_some_iff.mp e).1
theorem bis_fld {g g' : Gr τ} {a b : Nat} (h : Bis g a g' b) : F2 (fun x y => Bis g x g' y) (fld g a) (fld g' b) := by
  obtain ⟨t, fs, fs', e1, e2, f⟩ := h.step
  rw [fld_of e1, fld_of e2]
  exact f
theorem IsLeast.uniq {g g' : Gr τ} {r r' : Nat} {rows rows' : List (τ × List Nat)} (h : IsLeast g r rows) (h' : IsLeast g' r' rows') (b : Bis g r g' r') : rows = rows' := by
  have b0 : Bis (gr rows) 0 (gr rows') 0 := (h.bis.symm.trans b).trans h'.bis
  have hk : ∀ a b x y, Bis (gr rows) a (gr rows') b → Bis (gr rows) x (gr rows') y → (id a = id x ↔ id b = id y) := by
    intro a b x y r1 r2
    constructor
    · intro e
      have e : a = x := e
      subst e
      exact h'.sep b y r1.lt r2.lt (r1.symm.trans r2)
    · intro e
      have e : b = y := e
      subst e
      exact h.sep a x r1.symm.lt r2.symm.lt (r1.trans r2.symm)
  have hs := Come.sim (R := fun x y => Bis (gr rows) x (gr rows') y) (fun a b r => bis_fld r) hk b0 h.ord h'.ord
  have hl : rows.length = rows'.length := by simpa using hs.len
  have hi : ∀ i, i < rows.length → Bis (gr rows) i (gr rows') i := by
    intro i hi
    exact hs.get (i := i) (by rw [List.getElem?_range hi]) (by rw [List.getElem?_range (by omega)])
  refine List.ext_getElem? fun i => ?_
  by_cases hlt : i < rows.length
  · obtain ⟨t, fs, fs', e1, e2, f⟩ := (hi i hlt).step
    have e1 : rows[i]? = some (t, fs) := e1
    have e2 : rows'[i]? = some (t, fs') := e2
    rw [e1, e2]
    have : fs = fs' := by
      refine (f.impM fun x hx y hy r => ?_).eq
      have hx' := h.ok i t fs e1 x hx
      exact h'.sep x y (by omega) r.lt ((hi x hx').symm.trans r)
    rw [this]
  · rw [List.getElem?_eq_none (by omega), List.getElem?_eq_none (by omega)]
theorem IsLeast.self {g : Gr τ} {r : Nat} {rows : List (τ × List Nat)} (h : IsLeast g r rows) : IsLeast (gr rows) 0 rows :=
  ⟨h.ok, (gr_closed h.ok).bis h.bis.lt, h.sep, h.ord⟩
theorem IsLeast.of {g g' : Gr τ} {r r' : Nat} {rows : List (τ × List Nat)} (h : IsLeast g r rows) (b : Bis g' r' g r) : IsLeast g' r' rows := ⟨h.ok, b.trans h.bis, h.sep, h.ord⟩
theorem IsLeast.pos {g : Gr τ} {r : Nat} {rows : List (τ × List Nat)} (h : IsLeast g r rows) : 0 < rows.length := h.bis.lt
/-- a walk by classes, and rows by the places of the classes: the least sheet -/
theorem least_of_walk {g : Gr τ} {S : Nat → Prop} {κ : Nat → Nat} {r : Nat} {o : List Nat} {rows : List (τ × List Nat)} (c : Closed g S) (hr : S r) (hk : ∀ a b, S a → S b → (κ a = κ b ↔ Bis g a g b))
    (hc : Come (fld g) κ r [] o) (hrows : F2 (fun a (p : τ × List Nat) => ∃ t fs, g a = some (t, fs) ∧ p = (t, fs.map fun x => (o.map κ).idxOf (κ x))) o rows) : IsLeast g r rows := by
  have fS : ∀ a, S a → ∀ x ∈ fld g a, S x := by
    intro a ha x hx
    obtain ⟨t, fs, e, hf⟩ := c a ha
    rw [fld_of e] at hx
    exact hf x hx
  have oS := (Come.all hr fS hc).2
  have nd := hc.nodup
  obtain ⟨ld1, ld2⟩ := hc.leads
  have rin : κ r ∈ o.map κ := by
    rcases ld1 with h | h
    · exact h
    · cases h
  have fin : ∀ a ∈ o, ∀ x ∈ fld g a, κ x ∈ o.map κ := by
    intro a ha x hx
    rcases ld2 a ha x hx with h | h
    · exact h
    · cases h
  have hlen : rows.length = o.length := hrows.len.symm
  let idx : Nat → Nat := fun a => (o.map κ).idxOf (κ a)
  have idx_lt : ∀ a, κ a ∈ o.map κ → idx a < o.length := by
    intro a ha
    have := List.idxOf_lt_length_of_mem ha
    simpa using this
  have idx_at : ∀ a (ha : κ a ∈ o.map κ), ∃ b, o[idx a]? = some b ∧ κ b = κ a ∧ b ∈ o := by
    intro a ha
    have h1 := idx_lt a ha
    refine ⟨o[idx a], List.getElem?_eq_getElem h1, ?_, List.getElem_mem h1⟩
    have h2 : (o.map κ)[idx a]'(by simpa using h1) = κ a := List.getElem_idxOf (by simpa using h1)
    simpa using h2
  have row_at : ∀ i (hi : i < o.length), ∃ t fs, g o[i] = some (t, fs) ∧ rows[i]? = some (t, fs.map idx) := by
    intro i hi
    have h1 : o[i]? = some o[i] := List.getElem?_eq_getElem hi
    have hi2 : i < rows.length := by omega
    have h2 : rows[i]? = some rows[i] := List.getElem?_eq_getElem hi2
    obtain ⟨t, fs, e1, e2⟩ := hrows.get h1 h2
    exact ⟨t, fs, e1, by rw [h2, e2]⟩
  -- rows of one class write the same as the row of the least sheet
  have main : IsBis g (gr rows) (fun a i => S a ∧ ∃ hi : i < o.length, κ a = κ o[i]) := by
    refine ⟨fun a i ⟨sa, hi, e⟩ => ?_⟩
    obtain ⟨t, fs, e1, e2⟩ := row_at i hi
    have so : S o[i] := oS _ (List.getElem_mem hi)
    obtain ⟨t', gs, gs', e3, e4, f⟩ := ((hk a o[i] sa so).mp e).step
    rw [e1] at e4
    cases e4
    refine ⟨t, gs, fs.map idx, e3, e2, F2.mapR.mpr (f.impM fun x hx y hy b => ?_)⟩
    have sx : S x := fS a sa x (by rw [fld_of e3]; exact hx)
    have hy' : y ∈ fld g o[i] := by rw [fld_of e1]; exact hy
    have sy : S y := fS _ so y hy'
    have ky := fin _ (List.getElem_mem hi) y hy'
    have kxy := (hk x y sx sy).mpr b
    refine ⟨sx, idx_lt y ky, ?_⟩
    obtain ⟨b', eb, kb, _⟩ := idx_at y ky
    rw [List.getElem?_eq_getElem (idx_lt y ky)] at eb
    cases eb
    rw [kxy, kb]
  have ofi : ∀ i (hi : i < o.length), Bis g o[i] (gr rows) i := fun i hi => ⟨_, main, oS _ (List.getElem_mem hi), hi, rfl⟩
  have inj : ∀ i j (hi : i < o.length) (hj : j < o.length), κ o[i] = κ o[j] → i = j := by
    intro i j hi hj e
    have e1 : (o.map κ)[i]'(by simpa using hi) = (o.map κ)[j]'(by simpa using hj) := by simpa using e
    have np := List.pairwise_iff_getElem.mp nd
    rcases Nat.lt_trichotomy i j with h | h | h
    · exact (np i j (by simpa using hi) (by simpa using hj) h e1).elim
    · exact h
    · exact (np j i (by simpa using hj) (by simpa using hi) h e1.symm).elim
  refine ⟨fun i t fs e f hf => ?_, ?_, fun i j hi hj b => ?_, ?_⟩
  · have hi : i < o.length := by
      have := (List.getElem?_eq_some_iff.mp e).1
      omega
    obtain ⟨t', gs, e1, e2⟩ := row_at i hi
    rw [e] at e2
    cases e2
    obtain ⟨x, hx, rfl⟩ := List.mem_map.mp hf
    have := idx_lt x (fin _ (List.getElem_mem hi) x (by rw [fld_of e1]; exact hx))
    omega
  · have h0 := hc.head rin
    have hp : 0 < o.length := by
      cases o with
      | nil => cases h0
      | cons a t => exact Nat.succ_pos _
    refine ⟨_, main, hr, hp, ?_⟩
    cases o with
    | nil => cases h0
    | cons a t =>
      have : a = r := by simpa using h0
      subst this
      rfl
  · have hi' : i < o.length := by omega
    have hj' : j < o.length := by omega
    have b' : Bis g o[i] g o[j] := ((ofi i hi').trans b).trans (ofi j hj').symm
    exact inj i j hi' hj' ((hk _ _ (oS _ (List.getElem_mem hi')) (oS _ (List.getElem_mem hj'))).mpr b')
  · let R : Nat → Nat → Prop := fun a i => S a ∧ κ a ∈ o.map κ ∧ i = idx a
    have hf : ∀ a b, R a b → F2 R (fld g a) (fld (gr rows) b) := by
      intro a i ⟨sa, ka, e⟩
      subst e
      have hi := idx_lt a ka
      obtain ⟨b, eb, kb, bo⟩ := idx_at a ka
      obtain ⟨t, fs, e1, e2⟩ := row_at (idx a) hi
      rw [List.getElem?_eq_getElem hi] at eb
      cases eb
      have so := oS _ bo
      have eg : fld (gr rows) (idx a) = fs.map idx := fld_of e2
      rw [eg]
      obtain ⟨t', gs, gs', e3, e4, f⟩ := ((hk a _ sa so).mp kb.symm).step
      rw [e1] at e4
      cases e4
      rw [fld_of e3]
      refine F2.mapR.mpr (f.impM fun x hx y hy bxy => ?_)
      have sx : S x := fS a sa x (by rw [fld_of e3]; exact hx)
      have hy' : y ∈ fld g o[idx a] := by rw [fld_of e1]; exact hy
      have sy : S y := fS _ so y hy'
      have ky := fin _ bo y hy'
      have kxy := (hk x y sx sy).mpr bxy
      refine ⟨sx, by rw [kxy]; exact ky, ?_⟩
      show (o.map κ).idxOf (κ y) = (o.map κ).idxOf (κ x)
      rw [kxy]
    have hk2 : ∀ a b x y, R a b → R x y → (κ a = κ x ↔ id b = id y) := by
      intro a i x j ⟨sa, ka, ea⟩ ⟨sx, kx, ex⟩
      subst ea ex
      constructor
      · intro e
        show (o.map κ).idxOf (κ a) = (o.map κ).idxOf (κ x)
        rw [e]
      · intro e
        obtain ⟨b, eb, kb, _⟩ := idx_at a ka
        obtain ⟨b', eb', kb', _⟩ := idx_at x kx
        have e : idx a = idx x := e
        rw [e] at eb
        rw [eb] at eb'
        cases eb'
        exact kb.symm.trans kb'
    have h0 : idx r = 0 := by
      have h0 := hc.head rin
      cases o with
      | nil => cases h0
      | cons a t =>
        have : a = r := by simpa using h0
        subst this
        show List.idxOf (κ a) (κ a :: t.map κ) = 0
        rw [List.idxOf_cons_self]
    obtain ⟨o', h', ff⟩ := Come.sim1 hf hk2 (show R r 0 from ⟨hr, rin, h0.symm⟩) hc
    have : o' = List.range rows.length := by
      refine List.ext_getElem? fun i => ?_
      by_cases hi : i < o.length
      · have hi' : i < o'.length := by rw [← ff.len]; exact hi
        rw [List.getElem?_range (by omega), List.getElem?_eq_getElem hi']
        obtain ⟨s1, k1, e1⟩ := ff.get (List.getElem?_eq_getElem hi) (List.getElem?_eq_getElem hi')
        rw [e1]
        have : idx o[i] = i := by
          obtain ⟨b, eb, kb, _⟩ := idx_at o[i] k1
          have hlt := idx_lt _ k1
          rw [List.getElem?_eq_getElem hlt] at eb
          cases eb
          exact inj _ _ hlt hi kb
        rw [this]
      · have hi' : ¬ i < o'.length := by rw [← ff.len]; exact hi
        rw [List.getElem?_eq_none (by omega), List.getElem?_eq_none (by simp; omega)]
    rw [← this]
    exact h'
end
end DL.M
/-! M2: classes made finer turn by turn come to rows that write the same. -/
namespace DL.M
section
variable {α β γ : Type}
theorem len_le_rel [DecidableEq β] {R : β → α → Prop} : ∀ {C : List α} {D : List β}, C.Nodup → (∀ x ∈ C, ∃ y ∈ D, R y x) → (∀ y x x', x ∈ C → x' ∈ C → R y x → R y x' → x = x') → C.length ≤ D.length
  | [], _, _, _, _ => Nat.zero_le _
  | a :: C, D, nd, h, u => by
    obtain ⟨n1, n2⟩ := List.nodup_cons.mp nd
    obtain ⟨y, hy, r⟩ := h a List.mem_cons_self
    have hl := List.length_erase_of_mem hy
    have hp : 0 < D.length := List.length_pos_of_mem hy
    have ih : C.length ≤ (D.erase y).length := len_le_rel (R := R) n2 (fun x hx => by
      obtain ⟨z, hz, rz⟩ := h x (List.mem_cons_of_mem _ hx)
      refine ⟨z, ?_, rz⟩
      by_cases e : z = y
      · subst e
        exact absurd (u z x a (List.mem_cons_of_mem _ hx) List.mem_cons_self rz r) (fun e => n1 (e ▸ hx))
      · exact (List.mem_erase_of_ne e).mpr hz) fun y x x' hx hx' => u y x x' (List.mem_cons_of_mem _ hx) (List.mem_cons_of_mem _ hx')
    rw [List.length_cons]
    omega
theorem len_le_sub [DecidableEq α] {C D : List α} (nd : C.Nodup) (h : ∀ x ∈ C, x ∈ D) : C.length ≤ D.length :=
  len_le_rel (R := fun y x => y = x) nd (fun x hx => ⟨x, h x hx, rfl⟩) fun y x x' _ _ e e' => e.symm.trans e'
theorem len_eq_set [DecidableEq α] {C D : List α} (nc : C.Nodup) (ndd : D.Nodup) (h : ∀ x, x ∈ C ↔ x ∈ D) : C.length = D.length :=
  Nat.le_antisymm (len_le_sub nc fun x hx => (h x).mp hx) (len_le_sub ndd fun x hx => (h x).mpr hx)
/-- the values of c over the members of S, each once -/
structure Vals (S : Nat → Prop) (c : Nat → α) (C : List α) : Prop where
  nd : C.Nodup
  mem : ∀ x, x ∈ C ↔ ∃ a, S a ∧ c a = x
theorem Vals.le [DecidableEq β] {S : Nat → Prop} {c : Nat → α} {c' : Nat → β} {C : List α} {C' : List β} (h : Vals S c C) (h' : Vals S c' C') (fine : ∀ a b, S a → S b → c' a = c' b → c a = c b) : C.length ≤ C'.length :=
  len_le_rel (R := fun y x => ∃ a, S a ∧ c' a = y ∧ c a = x) h.nd (fun x hx => by
    obtain ⟨a, sa, e⟩ := (h.mem x).mp hx
    exact ⟨c' a, (h'.mem _).mpr ⟨a, sa, rfl⟩, a, sa, rfl, e⟩) fun y x x' _ _ ⟨a, sa, e1, e2⟩ ⟨b, sb, e3, e4⟩ => by
      rw [← e2, ← e4]
      exact fine a b sa sb (e1.trans e3.symm)
theorem Vals.tight [DecidableEq β] {S : Nat → Prop} {c : Nat → α} {c' : Nat → β} {C : List α} {C' : List β} (h : Vals S c C) (h' : Vals S c' C') (fine : ∀ a b, S a → S b → c' a = c' b → c a = c b) (e : C'.length ≤ C.length) {a b : Nat} (sa : S a) (sb : S b) (eab : c a = c b) : c' a = c' b := by
  refine Decidable.byContradiction fun ne => ?_
  have hm : c' a ∈ C' := (h'.mem _).mpr ⟨a, sa, rfl⟩
  have hl := List.length_erase_of_mem hm
  have hp : 0 < C'.length := List.length_pos_of_mem hm
  have : C.length ≤ (C'.erase (c' a)).length := len_le_rel (R := fun y x => ∃ a, S a ∧ c' a = y ∧ c a = x) h.nd (fun x hx => by
    obtain ⟨w, sw, e⟩ := (h.mem x).mp hx
    by_cases e2 : c' w = c' a
    · exact ⟨c' b, (List.mem_erase_of_ne (fun z => ne z.symm)).mpr ((h'.mem _).mpr ⟨b, sb, rfl⟩), b, sb, rfl, by rw [← eab, ← fine w a sw sa e2, e]⟩
    · exact ⟨c' w, (List.mem_erase_of_ne e2).mpr ((h'.mem _).mpr ⟨w, sw, rfl⟩), w, sw, rfl, e⟩) fun y x x' _ _ ⟨a, sa, e1, e2⟩ ⟨b, sb, e3, e4⟩ => by
      rw [← e2, ← e4]
      exact fine a b sa sb (e1.trans e3.symm)
  omega
end
section
variable {τ : Type} {α β : Type}
def tg (g : Gr τ) (a : Nat) : Option τ := (g a).map (·.1)
/-- classes that rows that write the same share, and that tell tags apart -/
structure Ref (g : Gr τ) (S : Nat → Prop) (κ : Nat → α) : Prop where
  co : ∀ a b, S a → S b → Bis g a g b → κ a = κ b
  tg : ∀ a b, S a → S b → κ a = κ b → tg g a = tg g b
/-- a turn -/
def Nxt (g : Gr τ) (S : Nat → Prop) (κ : Nat → α) (κ' : Nat → β) : Prop := ∀ a b, S a → S b → (κ' a = κ' b ↔ κ a = κ b ∧ (fld g a).map κ = (fld g b).map κ)
variable {g : Gr τ} {S : Nat → Prop} {κ : Nat → α} {κ' : Nat → β}
theorem Closed.fld (c : Closed g S) {a : Nat} (h : S a) : ∀ x ∈ fld g a, S x := by
  obtain ⟨t, fs, e, hf⟩ := c a h
  rw [fld_of e]
  exact hf
theorem Ref.start (ht : ∀ a b, S a → S b → (κ a = κ b ↔ M.tg g a = M.tg g b)) : Ref g S κ := by
  refine ⟨fun a b sa sb h => (ht a b sa sb).mpr ?_, fun a b sa sb => (ht a b sa sb).mp⟩
  obtain ⟨t, fs, fs', e1, e2, _⟩ := h.step
  unfold M.tg
  rw [e1, e2]
  rfl
theorem Ref.start2 (ht : ∀ a b, S a → S b → (κ a = κ b ↔ M.tg g a = M.tg g b ∧ (M.fld g a).length = (M.fld g b).length)) : Ref g S κ := by
  refine ⟨fun a b sa sb h => (ht a b sa sb).mpr ?_, fun a b sa sb h => ((ht a b sa sb).mp h).1⟩
  obtain ⟨t, fs, fs', e1, e2, f⟩ := h.step
  unfold M.tg
  rw [e1, e2, fld_of e1, fld_of e2]
  exact ⟨rfl, f.len⟩
theorem Ref.next (c : Closed g S) (r : Ref g S κ) (n : Nxt g S κ κ') : Ref g S κ' := by
  refine ⟨fun a b sa sb h => (n a b sa sb).mpr ⟨r.co a b sa sb h, ?_⟩, fun a b sa sb h => r.tg a b sa sb ((n a b sa sb).mp h).1⟩
  exact ((bis_fld h).impM fun x hx y hy bxy => r.co x y (c.fld sa x hx) (c.fld sb y hy) bxy).map_eq
theorem Ref.done [DecidableEq β] {C : List α} {C' : List β} (c : Closed g S) (r : Ref g S κ) (n : Nxt g S κ κ') (v : Vals S κ C) (v' : Vals S κ' C') (e : C'.length ≤ C.length) {a b : Nat} (sa : S a) (sb : S b) : κ' a = κ' b ↔ Bis g a g b := by
  refine ⟨fun h => ?_, fun h => (r.next c n).co a b sa sb h⟩
  refine ⟨fun x y => S x ∧ S y ∧ κ' x = κ' y, ⟨fun x y ⟨sx, sy, exy⟩ => ?_⟩, sa, sb, h⟩
  obtain ⟨e1, e2⟩ := (n x y sx sy).mp exy
  obtain ⟨t, fs, ex, hx⟩ := c x sx
  obtain ⟨t', fs', ey, hy⟩ := c y sy
  have et := r.tg x y sx sy e1
  unfold M.tg at et
  rw [ex, ey] at et
  have et : t = t' := by simpa using et
  subst et
  rw [fld_of ex, fld_of ey] at e2
  refine ⟨t, fs, fs', ex, ey, (F2.of_map e2).impM fun p hp q hq epq => ⟨hx p hp, hy q hq, ?_⟩⟩
  exact v.tight v' (fun a b sa sb h => ((n a b sa sb).mp h).1) e (hx p hp) (hy q hq) epq
end
end DL.M
/-! M3: how long a walk goes. -/
namespace DL.M
section
variable {f : Nat → List Nat} {κ : Nat → Nat}
def left (f : Nat → List Nat) (κ : Nat → Nat) (o : List Nat) : List Nat → Nat
  | [] => 0
  | i :: is => (if κ i ∈ o.map κ then 0 else (f i).length) + left f κ o is
def mea (f : Nat → List Nat) (κ : Nat → Nat) (N : Nat) (t o : List Nat) : Nat := t.length + left f κ o (List.range N)
theorem left_le (a : Nat) (o : List Nat) : ∀ is, left f κ (o ++ [a]) is ≤ left f κ o is
  | [] => Nat.le_refl _
  | i :: is => by
    have ih := left_le a o is
    unfold left
    by_cases h : κ i ∈ o.map κ
    · have : κ i ∈ (o ++ [a]).map κ := by rw [List.map_append]; exact List.mem_append_left _ h
      rw [if_pos h, if_pos this]
      omega
    · rw [if_neg h]
      split <;> omega
theorem left_lt {a : Nat} {o : List Nat} (h : κ a ∉ o.map κ) : ∀ {is : List Nat}, a ∈ is → left f κ (o ++ [a]) is + (f a).length ≤ left f κ o is
  | i :: is, hm => by
    have hl := left_le (f := f) (κ := κ) a o is
    unfold left
    rcases List.mem_cons.mp hm with rfl | hm
    · have : κ a ∈ (o ++ [a]).map κ := by rw [List.map_append]; exact List.mem_append_right _ (by simp)
      rw [if_pos this, if_neg h]
      omega
    · have ih := left_lt h hm
      by_cases h2 : κ i ∈ o.map κ
      · have : κ i ∈ (o ++ [a]).map κ := by rw [List.map_append]; exact List.mem_append_left _ h2
        rw [if_pos this, if_pos h2]
        omega
      · rw [if_neg h2]
        split <;> omega
theorem left_bound {c : Nat} (h : ∀ a, (f a).length ≤ c) (o : List Nat) : ∀ is, left f κ o is ≤ c * is.length
  | [] => Nat.zero_le _
  | i :: is => by
    have ih := left_bound h o is
    have := h i
    unfold left
    rw [List.length_cons, Nat.mul_add]
    split <;> omega
theorem nodup_le {N : Nat} {o : List Nat} (nd : o.Nodup) (h : ∀ a ∈ o, a < N) : o.length ≤ N := by
  have := len_le_sub (D := List.range N) nd fun x hx => List.mem_range.mpr (h x hx)
  simpa using this
theorem mea_skip {N a : Nat} {t o : List Nat} : mea f κ N t o < mea f κ N (a :: t) o := by
  unfold mea
  rw [List.length_cons]
  omega
theorem mea_new {N a : Nat} {t o : List Nat} (h : κ a ∉ o.map κ) (ha : a < N) : mea f κ N (f a ++ t) (o ++ [a]) < mea f κ N (a :: t) o := by
  have := left_lt (f := f) h (List.mem_range.mpr ha)
  unfold mea
  rw [List.length_cons, List.length_append]
  omega
end
end DL.M
/-! X2: rows as data: a tuple, or a dict by numbers; fields a tuple, or a list. -/
namespace DL
open PySem PySem.Spec PyProof.Rows L2
section
variable {E : Fp} {G G' : Gp} {d y : D} {fs : List Nat} {g : M.Gr Str} {q : QD} {i : Nat} {t : Str}
def FldAt (G : Gp) (y : D) (fs : List Nat) : Prop := y = .tup (il fs) ∨ ∃ b, y = .ref b ∧ G b = some (.lst (il fs))
def RowsAt (G : Gp) (d : D) (g : M.Gr Str) : Prop :=
  (∃ ds, d = .tup ds ∧ ∀ i t fs, g i = some (t, fs) → ∃ y, ds[i]? = some (.tup [.str t, y]) ∧ FldAt G y fs) ∨
  ∃ a m, d = .ref a ∧ G a = some (.dic (kd nD id m)) ∧ ∀ i t fs, g i = some (t, fs) → ∃ y, aget m i = some (.tup [.str t, y]) ∧ FldAt G y fs
theorem FldAt.mono (h : FldAt G y fs) (s : Sx no G G') : FldAt G' y fs := by
  rcases h with h | ⟨b, h, k⟩
  · exact .inl h
  · exact .inr ⟨b, h, s b _ id k⟩
theorem RowsAt.mono (h : RowsAt G d g) (s : Sx no G G') : RowsAt G' d g := by
  rcases h with ⟨ds, h, k⟩ | ⟨a, m, h, h2, k⟩
  · exact .inl ⟨ds, h, fun i t fs e => let ⟨y, e1, e2⟩ := k i t fs e; ⟨y, e1, e2.mono s⟩⟩
  · exact .inr ⟨a, m, h, s a _ id h2, fun i t fs e => let ⟨y, e1, e2⟩ := k i t fs e; ⟨y, e1, e2.mono s⟩⟩
theorem rows_ix (h : RowsAt G d g) (e : g i = some (t, fs)) (k : ∀ y, FldAt G y fs → q (.tup [.str t, y]) G) : rIx d (.int (i : Nat)) G q := by
  rcases h with ⟨ds, rfl, h⟩ | ⟨a, m, rfl, h2, h⟩
  · obtain ⟨y, e1, e2⟩ := h i t fs e
    exact e_ixTup (atI_nat e1) (k y e2)
  · obtain ⟨y, e1, e2⟩ := h i t fs e
    refine e_ixD (.inl h2) (kd_fits key_nat m i) ?_ (k y e2)
    have := kd_get (V := id) key_nat m i
    rw [e1] at this
    exact this
theorem row_tag {y : D} (k : q (.str t) G) : rIx (.tup [.str t, y]) (.int 0) G q := e_ixTup (v := .str t) rfl k
theorem row_fld {y : D} (k : q y G) : rIx (.tup [.str t, y]) (.int 1) G q := e_ixTup (v := y) rfl k
theorem fld_list (h : FldAt G y fs) (k : newO (.lst (il fs)) q G) : rList [y] G q := by
  rcases h with rfl | ⟨b, rfl, h⟩
  · exact k
  · exact e_list (.inl h) k
/-- a loop over the fields -/
theorem fld_it {r : List D → (Gp → Prop) → Gp → Prop} (h : FldAt G y fs) (k : ∀ st : Gp → Prop, (∀ G', Sx no G G' → st G') → r (il fs) st G) : ItK y G r := by
  rcases h with rfl | ⟨b, rfl, h⟩
  · exact k _ fun _ _ => trivial
  · exact ⟨il fs, .inl h, k _ fun G' s => .inl (s b _ id h)⟩
end
theorem il_get {ns : List Nat} {i n : Nat} (h : ns[i]? = some n) : (il ns)[i]? = some (nD n) := by
  rw [List.getElem?_map, h]
  rfl
theorem il_gev {ns : List Nat} {i : Nat} {d : D} (h : (il ns)[i]? = some d) : ∃ n, ns[i]? = some n ∧ d = nD n := by
  rw [List.getElem?_map] at h
  obtain ⟨n, e, rfl⟩ := Option.map_eq_some_iff.mp h
  exact ⟨n, e, rfl⟩
end DL
/-! M4: each value once, in the order in which it is met. -/
namespace DL.M
section
variable {α : Type} [DecidableEq α]
def fst1 (acc : List α) (k : α) : List α := if k ∈ acc then acc else acc ++ [k]
def firsts (l : List α) : List α := l.foldl fst1 []
theorem firsts_snoc (l : List α) (k : α) : firsts (l ++ [k]) = fst1 (firsts l) k := by
  unfold firsts
  rw [List.foldl_append]
  rfl
theorem mem_fst1 {acc : List α} {k x : α} : x ∈ fst1 acc k ↔ x ∈ acc ∨ x = k := by
  unfold fst1
  split
  · rename_i h
    constructor
    · exact .inl
    · rintro (h1 | rfl)
      · exact h1
      · exact h
  · simp
theorem mem_foldl {l acc : List α} {x : α} : x ∈ l.foldl fst1 acc ↔ x ∈ acc ∨ x ∈ l := by
  induction l generalizing acc with
  | nil => simp
  | cons a l ih =>
    rw [List.foldl_cons, ih, mem_fst1, List.mem_cons]
    constructor
    · rintro ((h | h) | h)
      · exact .inl h
      · exact .inr (.inl h)
      · exact .inr (.inr h)
    · rintro (h | h | h)
      · exact .inl (.inl h)
      · exact .inl (.inr h)
      · exact .inr h
theorem mem_firsts {l : List α} {x : α} : x ∈ firsts l ↔ x ∈ l := by
  unfold firsts
  rw [mem_foldl]
  simp
theorem nodup_fst1 {acc : List α} (h : acc.Nodup) (k : α) : (fst1 acc k).Nodup := by
  unfold fst1
  split
  · exact h
  · rename_i hk
    rw [List.nodup_append]
    refine ⟨h, by simp, fun a ha b hb => ?_⟩
    have : b = k := by simpa using hb
    subst this
    rintro rfl
    exact hk ha
theorem nodup_firsts (l : List α) : (firsts l).Nodup := by
  have all : ∀ (l acc : List α), acc.Nodup → (l.foldl fst1 acc).Nodup := by
    intro l
    induction l with
    | nil => exact fun _ h => h
    | cons a l ih => exact fun acc h => ih _ (nodup_fst1 h a)
  exact all l [] List.nodup_nil
theorem idx_fst1 {acc : List α} {k x : α} (h : x ∈ acc) : (fst1 acc k).idxOf x = acc.idxOf x := by
  unfold fst1
  split
  · rfl
  · rw [List.idxOf_append, if_pos h]
theorem idx_firsts {l r : List α} {x : α} (h : x ∈ l) : (firsts (l ++ r)).idxOf x = (firsts l).idxOf x := by
  have all : ∀ (r acc : List α), x ∈ acc → (r.foldl fst1 acc).idxOf x = acc.idxOf x := by
    intro r
    induction r with
    | nil => exact fun _ _ => rfl
    | cons a r ih =>
      intro acc h
      rw [List.foldl_cons, ih _ (mem_fst1.mpr (.inl h)), idx_fst1 h]
  unfold firsts
  rw [List.foldl_append]
  exact all r _ (mem_firsts.mpr h)
theorem firsts_len (l : List α) : (firsts l).length ≤ l.length := by
  have all : ∀ (l acc : List α), (l.foldl fst1 acc).length ≤ acc.length + l.length := by
    intro l
    induction l with
    | nil => exact fun _ => Nat.le_refl _
    | cons a l ih =>
      intro acc
      have h1 := ih (fst1 acc a)
      have h2 : (fst1 acc a).length ≤ acc.length + 1 := by
        unfold fst1
        split <;> simp
      rw [List.foldl_cons, List.length_cons]
      omega
  have := all l []
  simpa [firsts] using this
/-- where a value stands -/
def ix (C : List α) (x : α) : Nat := C.idxOf x
theorem get_idx {l : List α} {x : α} (h : x ∈ l) : l[l.idxOf x]? = some x := by
  have h1 := List.idxOf_lt_length_of_mem h
  rw [List.getElem?_eq_getElem h1, List.getElem_idxOf h1]
theorem idx_inj {l : List α} {x y : α} (hx : x ∈ l) (e : l.idxOf x = l.idxOf y) : x = y := by
  have hl := List.idxOf_lt_length_of_mem hx
  have hy : y ∈ l := by
    refine Decidable.byContradiction fun hy => ?_
    rw [e, List.idxOf_eq_length hy] at hl
    omega
  have h1 := get_idx hx
  have h2 := get_idx hy
  rw [e] at h1
  rw [h1] at h2
  exact Option.some.inj h2
end
end DL.M
/-! X3: locks, walks over dicts, setdefault, keys that are tuples of numbers, sums, sorting, displays. -/
namespace DL
open PySem PySem.Spec PyProof.Rows L2
open PySem.W (dataLe)
section
variable {t : TSd} {te : TD} {E : Ed} {σ : Sd} {G : Gp} {q : QD} {a : Addr} {kvs : List (D × D)} {e v : D}
theorem x_lock (h : G a = some (.dic kvs)) (k : t ⟨fun σ' G' => G' a = some (.rdc kvs) ∧ E.nx σ' (gup G' a (.dic kvs)), fun d G' => G' a = some (.rdc kvs) ∧ E.rt d (gup G' a (.dic kvs)), fun σ' G' => G' a = some (.rdc kvs) ∧ E.bk σ' (gup G' a (.dic kvs)), fun σ' G' => G' a = some (.rdc kvs) ∧ E.ct σ' (gup G' a (.dic kvs))⟩ σ (gup G a (.rdc kvs))) : dLock t E σ G := ⟨a, kvs, h, k⟩
theorem x_items {r : List D → (Gp → Prop) → Gp → Prop} (h : te σ G fun d G1 => rdcK d G1 fun kvs => r (kvs.map fun p => .tup [p.1, p.2]) (fun _ => True) G1) : dItems te σ G r := h
theorem x_values {r : List D → (Gp → Prop) → Gp → Prop} (h : te σ G fun d G1 => rdcK d G1 fun kvs => r (kvs.map (·.2)) (fun _ => True) G1) : dValues te σ G r := h
theorem x_keys {r : List D → (Gp → Prop) → Gp → Prop} (h : te σ G fun d G1 => rdcK d G1 fun kvs => r (kvs.map (·.1)) (fun _ => True) G1) : dKeys te σ G r := h
theorem e_rdcK {k : List (D × D) → Prop} (h : G a = some (.rdc kvs)) (hk : KeysK kvs) (q : k kvs) : rdcK (.ref a) G k := by
  show (match G a with | some (.rdc kvs) => KeysK kvs ∧ k kvs | _ => False)
  rw [h]
  exact ⟨hk, q⟩
theorem e_dicK {k : List (D × D) → Prop} (h : G a = some (.dic kvs)) (hk : KeysK kvs) (q : k kvs) : dicK (.ref a) G k := by
  show (match G a with | some (.dic kvs) => KeysK kvs ∧ k kvs | _ => False)
  rw [h]
  exact ⟨hk, q⟩
theorem e_setdef (h : G a = some (.dic kvs)) (f : fits kvs e = true) (l : kvs.length < sizeLine) (k : match dget kvs e with
    | some x => q x G
    | none => q v (gup G a (.dic (dput kvs e v)))) : rSetdef (.ref a) [e, v] G q := by
  show (match G a with
    | some (.dic kvs) => fits kvs e = true ∧ kvs.length < sizeLine ∧ match dget kvs e with
      | some x => q x G
      | none => q v (gup G a (.dic (dput kvs e v)))
    | _ => False)
  rw [h]
  exact ⟨f, l, k⟩
theorem atPat_mk {p : Pat} {d : D} {σ' : Sd} {k : Sd → Prop} (h : patD p d σ = some σ') (q : k σ') : atPat p d σ k := by
  unfold atPat
  rw [h]
  exact q
theorem lock_sx {F : Fp} {G' : Gp} (h : G a = some (.dic kvs)) (s : Sx F (gup G a (.rdc kvs)) G') : Sx F G (gup G' a (.dic kvs)) := fun b m hb x => by
  by_cases e : b = a
  · subst e
    rw [gup_same, ← x, h]
  · rw [gup_ne e]
    exact s b m hb (by rw [gup_ne e]; exact x)
theorem x_listV (h : te σ G fun d G1 => dicK d G1 fun kvs => newO (.lst (kvs.map (·.2))) q G1) : dListV te σ G q := h
theorem x_sumV (h : te σ G fun d G1 => dicK d G1 fun kvs => ∃ ns : List Int, kvs.map (·.2) = ns.map D.int ∧ q (.int ns.sum) G1) : dSumV te σ G q := h
theorem x_listItems (h : te σ G fun d G1 => dicK d G1 fun kvs => newO (.lst (pairsD kvs)) q G1) : dListItems te σ G q := h
theorem x_sortItems (h : te σ G fun d G1 => dicK d G1 fun kvs => SortD (pairsD kvs) ∧ ∀ rs, rs = (pairsD kvs).mergeSort (dataLe false enc) → rs.Perm (pairsD kvs) → rs.Pairwise (fun a b => dataLe false enc a b = true) → newO (.lst rs) q G1) : dSortItems te σ G q := h
theorem x_zipL {ta : TAd} (h : ta σ G fun ds G1 => arg2 ds fun d e => zipK d e G1 fun xs ys => xs.length = ys.length ∧ newO (.lst (zipD xs ys)) q G1) : dZipL ta σ G q := h
theorem x_lenSetI (h : te σ G fun d G1 => lisK d G1 fun es => ∃ ns : List Int, es = ns.map D.int ∧ ns.length < 4000 ∧ q (.int (firstMet (fun i => ns.getD i 0) ns.length).length) G1) : dLenSetI te σ G q := h
theorem x_sortSet (h : te σ G fun d G1 => lisK d G1 fun ds => ds.length < 64 ∧ keysUp ds ∧ SortD ds ∧
  ∀ rs, rs.Pairwise (fun a b => dataLe false enc a b = true) → (∀ r ∈ rs, r ∈ ds) → (∀ d ∈ ds, ∃ r ∈ rs, keyOf r = keyOf d) → (rs.map keyOf).Nodup → newO (.lst rs) q G1) : dSortSet te σ G q := h
theorem x_isI' {T : String} (h : te σ G fun d G1 => ∃ t, tyN d G1 = some t ∧ q (.bl (isTyB t T)) G1) : dIsI T te σ G q := h
theorem e_lisK {ds : List D} {k : List D → Prop} (h : ListAt G a ds) (q : k ds) : lisK (.ref a) G k := by
  show (match G a with | some (.lst ds) => k ds | some (.rol ds) => k ds | _ => False)
  rcases h with h | h <;> rw [h] <;> exact q
def AugK (o : Option (Option D)) (k : Int → Prop) : Prop := match o with
  | some (some d) => isI d k
  | _ => False
theorem x_augI {f : Int → Int → Int} {i : Nat} (h : AugK σ[i]? fun m => te σ G fun e G1 => isI e fun n => E.nx (σ.set i (some (.int (f m n)))) G1) : dAugI f i te E σ G := h
theorem augK {o : Option (Option D)} {m : Int} {k : Int → Prop} (h : o = some (some (.int m))) (q : k m) : AugK o k := by
  subst h
  exact q
theorem x_disp {trs : List (TD × TD)} (h : ∀ p, G p = none → dPairs trs σ (gup G p (.dic [])) fun ps G1 => G1 p = some (.dic []) ∧ KeysK ps ∧ ps.length ≤ 15 ∧ q (.ref p) (gup G1 p (.dic (dputs ps)))) : dDisp trs σ G q := h
theorem x_dpN {q : List (D × D) → Gp → Prop} (h : q [] G) : dPairs [] σ G q := h
theorem x_dpC {tk tv : TD} {r : List (TD × TD)} {q : List (D × D) → Gp → Prop} (h : tk σ G fun k G1 => tv σ G1 fun v G2 => dPairs r σ G2 fun ps G3 => q ((k, v) :: ps) G3) : dPairs ((tk, tv) :: r) σ G q := h
theorem x_slice {tl th : TOd} (h : te σ G fun d G1 => tl σ G1 fun l G2 => th σ G2 fun u G3 => rSl d l u G3 q) : dSl te tl th σ G q := h
theorem x_noPart {k : Option Int → Gp → Prop} (h : k none G) : dNoPart σ G k := h
theorem x_part {k : Option Int → Gp → Prop} (h : te σ G fun d G1 => isI d fun i => k (some i) G1) : dPart te σ G k := h
theorem x_listR2 {ta tb : TD} (h : ta σ G fun x G1 => tb σ G1 fun y G2 => isI x fun a => isI y fun b => RgOk a b ∧ newO (.lst (dRgD a b)) q G2) : dListR2 ta tb σ G q := h
theorem x_range2 {ta : TAd} {r : List D → (Gp → Prop) → Gp → Prop} (h : ta σ G fun ds G1 => arg2 ds fun d e => isI d fun a => isI e fun b => (rngOk a ∧ rngOk b) ∧ r ((List.range (b - a).toNat).map fun i => .int (a + (i : Nat))) (fun _ => True) G1) : dRange2 ta σ G r := h
end
theorem aget_zipIdxN {κ : Type} [DecidableEq κ] {x : κ} : ∀ {l : List κ} (n : Nat), x ∈ l → aget (l.zipIdx n) x = some (n + l.idxOf x)
  | [], n, h => by cases h
  | y :: l, n, h => by
    unfold aget
    rw [List.zipIdx_cons, List.find?_cons]
    dsimp only
    by_cases e : y = x
    · subst e
      rw [decide_eq_true rfl, List.idxOf_cons_self]
      rfl
    · rw [decide_eq_false e, List.idxOf_cons, show (y == x) = false from by simpa using e]
      have := aget_zipIdxN (n + 1) ((List.mem_cons.mp h).resolve_left (fun z => e z.symm))
      unfold aget at this
      rw [this]
      show some _ = some (n + (l.idxOf x + 1))
      congr 1
      omega
theorem aget_zipIdx {κ : Type} [DecidableEq κ] {x : κ} {l : List κ} (h : x ∈ l) : aget l.zipIdx x = some (l.idxOf x) := by
  have := aget_zipIdxN 0 h
  rwa [Nat.zero_add] at this
/-! ### tuples of numbers as keys -/
theorem keysOf_il : ∀ l : List Nat, keysOf (il l) = some (l.map fun n : Nat => NestedKey.num (n : Int))
  | [] => rfl
  | n :: l => by
    show (match keyOf (nD n), keysOf (il l) with | some k, some ks => some (k :: ks) | _, _ => none) = _
    rw [keysOf_il l]
    rfl
theorem depthAll_num : ∀ l : List Nat, NestedKey.depthAll (l.map fun n : Nat => NestedKey.num (n : Int)) ≤ 1
  | [] => by simp [NestedKey.depthAll]
  | n :: l => by
    have := depthAll_num l
    simp only [List.map_cons, NestedKey.depthAll, NestedKey.depth]
    omega
theorem key_tup : KeyFn (fun l : List Nat => D.tup (il l)) where
  eq := fun a b => by
    unfold keyEq
    have e : ∀ l, keyOf (.tup (il l)) = some (.tup (l.map fun n : Nat => NestedKey.num (n : Int))) := fun l => by
      show (keysOf (il l)).map _ = _
      rw [keysOf_il]
      rfl
    rw [e, e]
    by_cases h : a = b
    · subst h; simp
    · rw [decide_eq_false h, decide_eq_false]
      intro z
      injection z with z
      injection z with z
      refine h ?_
      clear e h
      induction a generalizing b with
      | nil => cases b with
        | nil => rfl
        | cons y b => cases z
      | cons x a ih => cases b with
        | nil => cases z
        | cons y b =>
          rw [List.map_cons, List.map_cons] at z
          injection z with z1 z2
          injection z1 with z1
          rw [ih b z2]
          congr 1
          omega
  ok := fun a => by
    unfold okKey
    have e : keyOf (.tup (il a)) = some (.tup (a.map fun n : Nat => NestedKey.num (n : Int))) := by
      show (keysOf (il a)).map _ = _
      rw [keysOf_il]
      rfl
    dsimp only
    rw [e]
    have := depthAll_num a
    refine decide_eq_true ?_
    simp only [NestedKey.depth]
    omega
  al := .inl fun a => ⟨_, rfl⟩
end DL
/-! P7: reached: the rows that can be reached, in the order of a walk. -/
namespace DL.K81
open PySem PySem.Spec PyProof.Rows L2 DL
local macro_rules
  | `(tactic| infer_instance) => `(tactic| first
    | with_reducible refine x_seq ?_
    | with_reducible refine x_asgN ?_
    | with_reducible refine x_asg ?_
    | with_reducible refine x_drop ?_
    | with_reducible refine x_ret ?_
    | with_reducible refine x_if ?_
    | with_reducible refine x_par ?_
    | with_reducible refine x_par3 ?_
    | with_reducible refine x_next ?_
    | with_reducible refine x_break ?_
    | with_reducible refine x_cont ?_
    | ((with_reducible refine x_var ?_); refine look rfl ?_)
    | with_reducible refine x_c ?_
    | with_reducible refine x_op ?_
    | with_reducible refine x_un ?_
    | with_reducible refine x_nil ?_
    | with_reducible refine x_cons ?_
    | with_reducible refine x_star ?_
    | with_reducible refine x_cb ?_
    | with_reducible refine x_bm ?_
    | with_reducible refine x_call ?_
    | with_reducible refine x_callK ?_
    | with_reducible refine x_tup ?_
    | with_reducible refine x_lst ?_
    | with_reducible refine x_newD ?_
    | with_reducible refine x_test ?_
    | with_reducible refine x_not ?_
    | with_reducible refine x_and ?_
    | with_reducible refine x_or ?_
    | with_reducible refine x_ifE ?_
    | with_reducible refine x_notV ?_
    | with_reducible refine x_yes ?_
    | with_reducible refine x_gname ?_
    | with_reducible refine x_gnil ?_
    | with_reducible refine x_gcons ?_
    | with_reducible refine x_gtup rfl ?_
    | with_reducible refine x_gsub ?_
    | with_reducible refine x_it ?_
    | with_reducible refine x_range1 ?_
    | with_reducible refine x_enum ?_
    | with_reducible refine x_lc ?_
    | with_reducible refine x_dc ?_
    | with_reducible refine x_for ?_
    | with_reducible refine e_rev ?_
    | with_reducible refine x_arg1 ?_
    | with_reducible refine x_arg2 ?_
    | with_reducible refine x_arg3 ?_
    | with_reducible refine x_isB ?_
    | with_reducible refine x_isI ?_
    | with_reducible refine x_items ?_
    | with_reducible refine x_values ?_
    | with_reducible refine x_keys ?_
    | with_reducible refine x_listV ?_
    | with_reducible refine x_sumV ?_
    | with_reducible refine x_listItems ?_
    | with_reducible refine x_sortItems ?_
    | with_reducible refine x_zipL ?_
    | with_reducible refine x_lenSetI ?_
    | with_reducible refine x_sortSet ?_
    | with_reducible refine x_isI' ?_
    | with_reducible refine x_dpN ?_
    | with_reducible refine x_dpC ?_
    | with_reducible refine x_slice ?_
    | with_reducible refine x_noPart ?_
    | with_reducible refine x_part ?_
    | with_reducible refine x_listR2 ?_
    | with_reducible refine x_range2 ?_
    | ((with_reducible refine x_augI ?_); refine augK rfl ?_))
section
def Sreached : SpD := fun ds G q => ∃ d g r N, ds = [d, nD r] ∧ RowsAt G d g ∧ (∃ S, M.Closed g S ∧ S r ∧ ∀ a, S a → a < N) ∧ N < 2 ^ 20 ∧ (∀ a, (M.fld g a).length ≤ 8) ∧
  ∀ p o G', G p = none → Sx no G G' → G' p = some (.lst (il o)) → M.Come (M.fld g) id r [] o → q (.ref p) G'
theorem rdreached (ds : List D) (G : Gp) (q : QD) (h : Sreached ds G q) : treached { nx := fun _ G' => fin (q .non) G', rt := fun d G' => fin (q d) G' } (startD Nreached ds) G := by
  obtain ⟨d, g, r, N, rfl, hr, ⟨S, hS, sr, hN⟩, hN2, hf, k⟩ := h
  unfold treached
  repeat infer_instance
  refine new_run fun an G1 hn s1 en _ => ?_
  repeat infer_instance
  refine ⟨sz (by simp), new_run fun aw G2 hw s2 ew _ => ?_⟩
  repeat infer_instance
  have s02 : Sx no G G2 := s1.trans s2
  have gw : G aw = none := by
    cases e : G aw with
    | none => rfl
    | some m => rw [s1 aw m id e] at hw; cases hw
  have hne : an ≠ aw := by
    rintro rfl
    rw [en] at hw
    cases hw
  have rowc : ∀ a, S a → ∃ t fs, g a = some (t, fs) := fun a h => let ⟨t, fs, e, _⟩ := hS a h; ⟨t, fs, e⟩
  have b0 : M.mea (M.fld g) id N [r] [] ≤ 1 + 8 * N := by
    have := M.left_bound (κ := id) hf [] (List.range N)
    unfold M.mea
    simp only [List.length_singleton, List.length_range] at this ⊢
    omega
  refine ⟨fun m σ H => ∃ (t o : List Nat) (x : Option D), σ = [some d, some (nD r), some (.ref an), some (.ref aw), x] ∧ Sx no G H ∧ H an = some (.dic (kd nD nD o.zipIdx)) ∧ H aw = some (.lst (il t.reverse)) ∧ M.Come (M.fld g) id r t o ∧ m = M.mea (M.fld g) id N t o ∧ m ≤ 1 + 8 * N, ⟨_, fin.of ⟨[r], [], none, rfl, s02, s2 an _ id en, ew, .start, rfl, b0⟩⟩, fun m σ H ⟨t, o, x, hσ, sH, en, ew, hc, hm, hb⟩ => ?_⟩
  subst hσ
  repeat infer_instance
  refine ⟨sz (by simp), new_run fun p G3 hp s3 ep _ => ?_⟩
  have ew3 := s3 aw _ id ew
  have en3 := s3 an _ id en
  have sH3 := sH.trans s3
  have fS : ∀ a, S a → ∀ x ∈ M.fld g a, S x := fun a ha => hS.fld ha
  obtain ⟨tS, oS⟩ := hc.all sr fS
  have nd : o.Nodup := by simpa using hc.nodup
  have ol : o.length ≤ N := M.nodup_le nd fun a ha => hN a (oS a ha)
  have ztl : (kd nD nD o.zipIdx).length = o.length := by rw [kd_len, List.length_zipIdx]
  have zk : (o.zipIdx).map (·.1) = o := by simp
  refine e_neNilI ew3 ep ?_
  cases t with
  | nil =>
    repeat infer_instance
    rw [if_neg (by decide)]
    repeat infer_instance
    refine e_listD (.inl en3) (kd_nat _) (new_run fun pr G4 hpr s4 epr _ => fin.of (k pr o G4 (sH3.bk hpr) (sH3.trans s4) ?_ hc))
    rw [epr, kd_keys, zk]
  | cons a t =>
    repeat infer_instance
    rw [if_pos (by simp)]
    repeat infer_instance
    refine ⟨t_lst (.inl ew3), ?_⟩
    repeat infer_instance
    rw [show il (a :: t).reverse = il t.reverse ++ [nD a] from by simp] at ew3
    refine e_pop ew3 ?_
    have sH4 : Sx no G (gup G3 aw (.lst (il t.reverse))) := sH3.gup gw
    have en4 : gup G3 aw (.lst (il t.reverse)) an = _ := (gup_ne hne).trans en3
    have ew4 : gup G3 aw (.lst (il t.reverse)) aw = _ := gup_same
    generalize gup G3 aw (.lst (il t.reverse)) = G4 at sH4 en4 ew4 ⊢
    repeat infer_instance
    refine e_inD (.inl en4) (kd_fits key_nat _ a) ?_
    rw [kd_get key_nat, Option.isSome_map, aget_isSome, zk]
    repeat infer_instance
    have sa : S a := tS a List.mem_cons_self
    by_cases ha : a ∈ o
    · rw [decide_eq_true ha, if_neg (by decide)]
      repeat infer_instance
      exact ⟨_, by rw [hm]; exact M.mea_skip, fin.of ⟨t, o, _, rfl, sH4, en4, ew4, hc.skip (by simpa using ha), rfl, by have := M.mea_skip (f := M.fld g) (κ := id) (N := N) (a := a) (t := t) (o := o); omega⟩⟩
    · rw [decide_eq_false ha, if_pos (by decide)]
      repeat infer_instance
      refine e_lenD (.inl en4) ?_
      repeat infer_instance
      refine e_setD en4 (kd_fits key_nat _ a) (by rw [ztl]; exact Nat.lt_of_le_of_lt ol (by rw [sizeLine_eq]; omega)) ?_
      rw [ztl, show (D.int (o.length : Nat)) = nD o.length from rfl, kd_put key_nat, aput_new (aget_none.mpr (by rw [zk]; exact ha))]
      have zs : o.zipIdx ++ [(a, o.length)] = (o ++ [a]).zipIdx := by rw [List.zipIdx_append]; simp
      rw [zs]
      have gn : G an = none := hn
      have sH5 : Sx no G (gup G4 an (.dic (kd nD nD (o ++ [a]).zipIdx))) := sH4.gup gn
      have en5 : gup G4 an (.dic (kd nD nD (o ++ [a]).zipIdx)) an = _ := gup_same
      have ew5 : gup G4 an (.dic (kd nD nD (o ++ [a]).zipIdx)) aw = _ := (gup_ne (Ne.symm hne)).trans ew4
      generalize gup G4 an (.dic (kd nD nD (o ++ [a]).zipIdx)) = G5 at sH5 en5 ew5 ⊢
      repeat infer_instance
      refine ⟨t_lst (.inl ew5), ?_⟩
      repeat infer_instance
      obtain ⟨tt, fs, ea⟩ := rowc a sa
      refine rows_ix (hr.mono sH5) ea fun y hy => ?_
      repeat infer_instance
      refine row_fld ?_
      repeat infer_instance
      refine fld_list hy (new_run fun p6 G6 hp6 s6 ep6 _ => ?_)
      refine e_revL ep6 (new_run fun p7 G7 hp7 s7 ep7 _ => ?_)
      repeat infer_instance
      have ew7 := s7 _ _ id (s6 _ _ id ew5)
      have en7 := s7 _ _ id (s6 _ _ id en5)
      have hfl : M.fld g a = fs := M.fld_of ea
      have hlt := hf a
      have hm2 : M.mea (M.fld g) id N (M.fld g a ++ t) (o ++ [a]) < m := by rw [hm]; exact M.mea_new (by simpa using ha) (hN a sa)
      have tl : t.length ≤ m := by
        rw [hm]
        unfold M.mea
        rw [List.length_cons]
        omega
      refine e_ext ew7 ep7 ?_ ?_
      · rw [sizeLine_eq, List.length_map, List.length_reverse, List.length_reverse, List.length_map, ← hfl]
        omega
      · rw [show il t.reverse ++ (il fs).reverse = il (M.fld g a ++ t).reverse from by rw [hfl]; simp]
        refine ⟨_, hm2, fin.of ⟨M.fld g a ++ t, o ++ [a], _, rfl, ((sH5.trans s6).trans s7).gup gw, (gup_ne hne).trans en7, gup_same, hc.new (by simpa using ha), rfl, by omega⟩⟩
end
end DL.K81
/-! P8: numbered: a dict's values by numbers, the first met first. -/
namespace DL.K81
open PySem PySem.Spec PyProof.Rows L2 DL
local macro_rules
  | `(tactic| infer_instance) => `(tactic| first
    | with_reducible refine x_seq ?_
    | with_reducible refine x_asgN ?_
    | with_reducible refine x_asg ?_
    | with_reducible refine x_drop ?_
    | with_reducible refine x_ret ?_
    | with_reducible refine x_if ?_
    | with_reducible refine x_par ?_
    | with_reducible refine x_par3 ?_
    | with_reducible refine x_next ?_
    | with_reducible refine x_break ?_
    | with_reducible refine x_cont ?_
    | ((with_reducible refine x_var ?_); refine look rfl ?_)
    | with_reducible refine x_c ?_
    | with_reducible refine x_op ?_
    | with_reducible refine x_un ?_
    | with_reducible refine x_nil ?_
    | with_reducible refine x_cons ?_
    | with_reducible refine x_star ?_
    | with_reducible refine x_cb ?_
    | with_reducible refine x_bm ?_
    | with_reducible refine x_call ?_
    | with_reducible refine x_callK ?_
    | with_reducible refine x_tup ?_
    | with_reducible refine x_lst ?_
    | with_reducible refine x_newD ?_
    | with_reducible refine x_test ?_
    | with_reducible refine x_not ?_
    | with_reducible refine x_and ?_
    | with_reducible refine x_or ?_
    | with_reducible refine x_ifE ?_
    | with_reducible refine x_notV ?_
    | with_reducible refine x_yes ?_
    | with_reducible refine x_gname ?_
    | with_reducible refine x_gnil ?_
    | with_reducible refine x_gcons ?_
    | with_reducible refine x_gtup rfl ?_
    | with_reducible refine x_gsub ?_
    | with_reducible refine x_it ?_
    | with_reducible refine x_range1 ?_
    | with_reducible refine x_enum ?_
    | with_reducible refine x_lc ?_
    | with_reducible refine x_dc ?_
    | with_reducible refine x_for ?_
    | with_reducible refine e_rev ?_
    | with_reducible refine x_arg1 ?_
    | with_reducible refine x_arg2 ?_
    | with_reducible refine x_arg3 ?_
    | with_reducible refine x_isB ?_
    | with_reducible refine x_isI ?_
    | with_reducible refine x_items ?_
    | with_reducible refine x_values ?_
    | with_reducible refine x_keys ?_
    | with_reducible refine x_listV ?_
    | with_reducible refine x_sumV ?_
    | with_reducible refine x_listItems ?_
    | with_reducible refine x_sortItems ?_
    | with_reducible refine x_zipL ?_
    | with_reducible refine x_lenSetI ?_
    | with_reducible refine x_sortSet ?_
    | with_reducible refine x_isI' ?_
    | with_reducible refine x_dpN ?_
    | with_reducible refine x_dpC ?_
    | with_reducible refine x_slice ?_
    | with_reducible refine x_noPart ?_
    | with_reducible refine x_part ?_
    | with_reducible refine x_listR2 ?_
    | with_reducible refine x_range2 ?_
    | ((with_reducible refine x_augI ?_); refine augK rfl ?_))
section
def Snumbered : SpD := fun ds G q => ∃ (κ : Type) (dec : DecidableEq κ) (K : κ → D) (a : Addr) (m : List (Nat × κ)), KeyFn K ∧ ds = [.ref a] ∧ G a = some (.dic (kd nD K m)) ∧ (m.map (·.1)).Nodup ∧ m.length < 2 ^ 20 ∧
  ∀ p (C : List κ) G', G p = none → Sx no G G' → C.Nodup → (∀ k, k ∈ C ↔ k ∈ m.map (·.2)) → G' p = some (.dic (kd nD nD (m.map fun x => (x.1, M.ix C x.2)))) → q (.tup [.ref p, nD C.length]) G'
theorem rdnumbered (ds : List D) (G : Gp) (q : QD) (h : Snumbered ds G q) : tnumbered { nx := fun _ G' => fin (q .non) G', rt := fun d G' => fin (q d) G' } (startD Nnumbered ds) G := by
  obtain ⟨κ, dec, K, a, m, hK, rfl, ha, hnd, hlen, k⟩ := h
  unfold tnumbered
  repeat infer_instance
  refine new_run fun an G1 hn s1 en _ => ?_
  repeat infer_instance
  have ha1 := s1 a _ id ha
  have hna : an ≠ a := by
    rintro rfl
    rw [hn] at ha
    cases ha
  refine x_lock ha1 ?_
  repeat infer_instance
  refine e_rdcK gup_same (kd_nat m) ?_
  have enB : gup G1 a (.rdc (kd nD K m)) an = some (.dic []) := by rw [gup_ne hna]; exact en
  have hlk : ∀ G', Sx (· = an) (gup G1 a (.rdc (kd nD K m))) G' → Sx (· = an) G1 (gup G' a (.dic (kd nD K m))) := fun G' s => lock_sx ha1 s
  have haB : gup G1 a (.rdc (kd nD K m)) a = _ := gup_same
  have hB : ∀ p, p ≠ a → gup G1 a (.rdc (kd nD K m)) p = none → G1 p = none := fun p h e => by rw [gup_ne h] at e; exact e
  generalize gup G1 a (.rdc (kd nD K m)) = B at enB hlk haB hB ⊢
  intro p hp
  have hpn : p ≠ an := by rintro rfl; rw [enB] at hp; cases hp
  have hpa : p ≠ a := by rintro rfl; rw [haB] at hp; cases hp
  let ks := m.map (·.2)
  let ν := fun k => (M.firsts ks).idxOf k
  refine ⟨fun i acc H => acc = kd nD nD ((m.take i).map fun x => (x.1, ν x.2)) ∧ H an = some (.dic (kd K nD (M.firsts ((m.take i).map (·.2))).zipIdx)) ∧ Sx (· = an) B (gup H p (.dic acc)), ⟨rfl, enB, Sx.refl.gup hp⟩, fun _ _ _ _ => trivial, fun i d acc H hd ⟨e1, e2, e3⟩ => ?_, fun acc H ⟨e1, e2, e3⟩ => ?_⟩
  · unfold kd at hd
    rw [List.map_map, List.getElem?_map] at hd
    obtain ⟨x, hx, rfl⟩ := Option.map_eq_some_iff.mp hd
    have hil : i < m.length := (List.getElem?_eq_some_iff.mp hx).1
    refine atPat_mk rfl ?_
    repeat infer_instance
    rw [if_pos rfl]
    repeat infer_instance
    have e4 : gup H p (.dic acc) an = some (.dic (kd K nD (M.firsts ((m.take i).map (·.2))).zipIdx)) := (gup_ne (Ne.symm hpn)).trans e2
    have e5 : gup H p (.dic acc) p = _ := gup_same
    have fl : (M.firsts ((m.take i).map (·.2))).length ≤ i := by
      have := M.firsts_len ((m.take i).map (·.2))
      rw [List.length_map, List.length_take] at this
      omega
    have zl : (kd K nD (M.firsts ((m.take i).map (·.2))).zipIdx).length = (M.firsts ((m.take i).map (·.2))).length := by rw [kd_len, List.length_zipIdx]
    generalize gup H p (.dic acc) = G2 at e3 e4 e5 ⊢
    refine ⟨t_dic (.inl e4), ?_⟩
    repeat infer_instance
    refine e_lenD (.inl e4) ?_
    repeat infer_instance
    rw [zl]
    have hkn : (m.take i).map (·.1) ++ [x.1] ++ ((m.drop (i + 1)).map (·.1)) = m.map (·.1) := by
      have : m = m.take i ++ [x] ++ m.drop (i + 1) := by
        rw [← take_succ_get hx, List.take_append_drop]
      conv => rhs; rw [this]
      simp
    have hnew : x.1 ∉ (m.take i).map (·.1) := by
      rw [← hkn] at hnd
      have := (List.nodup_append.mp (List.nodup_append.mp hnd).1).2.2
      intro z
      exact this _ z x.1 (by simp) rfl
    have step : ∀ G3, G3 p = some (.dic acc) → Sx (· = an) B G3 → G3 an = some (.dic (kd K nD (M.firsts ((m.take (i + 1)).map (·.2))).zipIdx)) →
        (∃ kk, isK (nD x.1) = some kk) ∧ G3 p = some (.dic acc) ∧ KeysK acc ∧ acc.length < sizeLine ∧ ∃ G6, Sub (gup G6 p (.dic (dput acc (nD x.1) (nD (ν x.2))))) (gup G3 p (.dic (dput acc (nD x.1) (nD (ν x.2))))) ∧ (dput acc (nD x.1) (nD (ν x.2)) = kd nD nD ((m.take (i + 1)).map fun x => (x.1, ν x.2)) ∧ G6 an = some (.dic (kd K nD (M.firsts ((m.take (i + 1)).map (·.2))).zipIdx)) ∧ Sx (· = an) B (gup G6 p (.dic (dput acc (nD x.1) (nD (ν x.2)))))) := by
      intro G3 h1 h2 h3
      refine ⟨⟨_, rfl⟩, h1, by rw [e1]; exact kd_nat _, ?_, G3, Sub.refl, ?_, h3, h2.gup hp⟩
      · rw [e1, kd_len, List.length_map, List.length_take, sizeLine_eq]
        omega
      · rw [e1, kd_put key_nat, aput_new, take_succ_get hx, List.map_append]
        · rfl
        · rw [aget_none, List.map_map]
          exact hnew
    have hks : ks = ((m.take i).map (·.2)) ++ ([x.2] ++ (m.drop (i + 1)).map (·.2)) := by
      have : m = m.take i ++ [x] ++ m.drop (i + 1) := by
        rw [← take_succ_get hx, List.take_append_drop]
      show m.map (·.2) = _
      conv => lhs; rw [this]
      simp
    refine e_setdef e4 (kd_fits hK _ x.2) (by rw [zl, sizeLine_eq]; omega) ?_
    rw [kd_get hK]
    have hsn : (m.take (i + 1)).map (·.2) = (m.take i).map (·.2) ++ [x.2] := by rw [take_succ_get hx, List.map_append]; rfl
    by_cases hm : x.2 ∈ (m.take i).map (·.2)
    · have hf : x.2 ∈ M.firsts ((m.take i).map (·.2)) := M.mem_firsts.mpr hm
      have ea : aget (M.firsts ((m.take i).map (·.2))).zipIdx x.2 = some (ν x.2) := by
        have en2 : ν x.2 = (M.firsts ((m.take i).map (·.2))).idxOf x.2 := by
          show (M.firsts ks).idxOf x.2 = _
          rw [hks, M.idx_firsts hm]
        rw [en2]
        exact aget_zipIdx hf
      rw [ea]
      refine step G2 e5 e3 ?_
      rw [hsn, M.firsts_snoc]
      unfold M.fst1
      rw [if_pos hf]
      exact e4
    · have hf : x.2 ∉ M.firsts ((m.take i).map (·.2)) := fun z => hm (M.mem_firsts.mp z)
      have ea : aget (M.firsts ((m.take i).map (·.2))).zipIdx x.2 = none := by
        rw [aget_none]
        simpa using hf
      rw [ea]
      show (∃ kk, isK (nD x.1) = some kk) ∧ _
      have ev : (M.firsts ((m.take i).map (·.2))).length = ν x.2 := by
        show _ = (M.firsts ks).idxOf x.2
        rw [hks, ← List.append_assoc, M.idx_firsts (by simp), M.firsts_snoc]
        unfold M.fst1
        rw [if_neg hf, List.idxOf_append, if_neg hf]
        simp
      rw [show (D.int ((M.firsts ((m.take i).map (·.2))).length : Nat)) = nD (M.firsts ((m.take i).map (·.2))).length from rfl, kd_put hK, aput_new ea]
      have hlast : (M.firsts ((m.take i).map (·.2))).zipIdx ++ [(x.2, (M.firsts ((m.take i).map (·.2))).length)] = (M.firsts ((m.take (i + 1)).map (·.2))).zipIdx := by
        rw [hsn, M.firsts_snoc]
        unfold M.fst1
        rw [if_neg hf, List.zipIdx_append]
        simp
      rw [hlast, ev]
      exact step _ (by rw [gup_ne hpn]; exact e5) (e3.gupE rfl) gup_same
  · have e4 : gup H p (.dic acc) an = some (.dic (kd K nD (M.firsts ks).zipIdx)) := by
      rw [gup_ne (Ne.symm hpn), e2]
      unfold kd
      rw [List.length_map, List.length_map, List.take_length]
    have e5 : gup H p (.dic acc) p = some (.dic (kd nD nD (m.map fun x => (x.1, ν x.2)))) := by
      rw [gup_same, e1]
      unfold kd
      rw [List.length_map, List.length_map, List.take_length]
    generalize gup H p (.dic acc) = G2 at e3 e4 e5 ⊢
    repeat infer_instance
    refine ⟨e3 a _ (Ne.symm hna) haB, ?_⟩
    have sE := s1.cut (hlk _ e3) (fun b hb => by rw [hb]; exact hn)
    have e6 : gup G2 a (.dic (kd nD K m)) an = _ := (gup_ne hna).trans e4
    have e7 : gup G2 a (.dic (kd nD K m)) p = _ := (gup_ne hpa).trans e5
    generalize gup G2 a (.dic (kd nD K m)) = G3 at sE e6 e7 ⊢
    repeat infer_instance
    refine e_lenD (.inl e6) ?_
    repeat infer_instance
    rw [kd_len, List.length_zipIdx]
    exact ⟨sz (by simp), fin.of (k p _ G3 (s1.bk (hB p hpa hp)) sE (M.nodup_firsts _) (fun k => M.mem_firsts) e7)⟩
end
end DL.K81
/-! X4: comprehensions whose items are told by functions; dicts from pairs with keys that differ. -/
namespace DL
open PySem PySem.Spec PyProof.Rows L2
section
variable {E : Fp} {J : Gp → Prop} {p : Pat} {tt : TTd} {te tk tv : TD} {vs : List Nat} {σ : Sd} {q : QD} {ds : List D} {st : Gp → Prop} {G1 : Gp} {α : Type}
theorem lc_fn (fr : Fr E J) (hJ : J G1) (xs : List α) (e f : α → D) (hds : ds = xs.map e) (hst : ∀ G', Sx E G1 G' → st G') (hl : xs.length < sizeLine)
    (elt : ∀ (i : Nat) x G', xs[i]? = some x → Sx E G1 G' → J G' → ∃ σ2, patD p (e x) (wipeD σ vs) = some σ2 ∧ ∀ (k : QD), (∀ G'', Sx E G' G'' → J G'' → k (f x) G'') → te σ2 G' k)
    (done : ∀ a G', G1 a = none → Sx E G1 G' → J G' → G' a = some (.lst (xs.map f)) → q (.ref a) G') : LcB p dYes te vs σ q ds st G1 := by
  intro a ha
  subst hds
  have hE : ¬ E a := fr.fresh hJ ha
  refine ⟨fun i acc G => J (gup G a (.lst acc)) ∧ Sx E G1 (gup G a (.lst acc)) ∧ acc = (xs.take i).map f, ⟨fr.st _ _ _ hJ hE, Sx.refl.gup ha, rfl⟩, fun i acc G w => hst _ w.2.1, fun i d acc G hd ⟨w1, w2, w3⟩ => ?_, fun acc G ⟨w1, w2, w3⟩ => ?_⟩
  · rw [List.getElem?_map] at hd
    obtain ⟨x, hx, rfl⟩ := Option.map_eq_some_iff.mp hd
    obtain ⟨σ2, e2, h2⟩ := elt i x _ hx w2 w1
    refine atPat_mk e2 ?_
    unfold dYes
    dsimp only
    rw [if_pos rfl]
    refine h2 _ fun G4 s4 j4 => ?_
    have hlt : i < xs.length := (List.getElem?_eq_some_iff.mp hx).1
    refine ⟨s4 a _ hE gup_same, ?_, G4, Sub.refl, fr.st _ _ _ j4 hE, (w2.trans s4).gup ha, ?_⟩
    · rw [w3, List.length_map, List.length_take]
      omega
    · rw [take_succ_get hx, List.map_append, w3]
      rfl
  · rw [List.length_map, List.take_length] at w3
    subst w3
    exact done a _ ha w2 w1 gup_same
/-- with a condition -/
theorem lc_ff (fr : Fr E J) (hJ : J G1) (xs : List α) (e f : α → D) (b : α → Bool) (hds : ds = xs.map e) (hst : ∀ G', Sx E G1 G' → st G') (hl : xs.length < sizeLine)
    (turn : ∀ (i : Nat) x G', xs[i]? = some x → Sx E G1 G' → J G' → ∃ σ2, patD p (e x) (wipeD σ vs) = some σ2 ∧ ∀ (k : Bool → Gp → Prop), (∀ G'', Sx E G' G'' → J G'' → k (b x) G'') → tt σ2 G' k)
    (elt : ∀ (i : Nat) x G' σ2, xs[i]? = some x → b x = true → Sx E G1 G' → J G' → patD p (e x) (wipeD σ vs) = some σ2 → ∀ (k : QD), (∀ G'', Sx E G' G'' → J G'' → k (f x) G'') → te σ2 G' k)
    (done : ∀ a G', G1 a = none → Sx E G1 G' → J G' → G' a = some (.lst ((xs.filter b).map f)) → q (.ref a) G') : LcB p tt te vs σ q ds st G1 := by
  intro a ha
  subst hds
  have hE : ¬ E a := fr.fresh hJ ha
  refine ⟨fun i acc G => J (gup G a (.lst acc)) ∧ Sx E G1 (gup G a (.lst acc)) ∧ acc = ((xs.take i).filter b).map f, ⟨fr.st _ _ _ hJ hE, Sx.refl.gup ha, rfl⟩, fun i acc G w => hst _ w.2.1, fun i d acc G hd ⟨w1, w2, w3⟩ => ?_, fun acc G ⟨w1, w2, w3⟩ => ?_⟩
  · rw [List.getElem?_map] at hd
    obtain ⟨x, hx, rfl⟩ := Option.map_eq_some_iff.mp hd
    obtain ⟨σ2, e2, h2⟩ := turn i x _ hx w2 w1
    refine atPat_mk e2 (h2 _ fun G3 s3 j3 => ?_)
    have hlt : i < xs.length := (List.getElem?_eq_some_iff.mp hx).1
    have g3 : G3 a = some (.lst acc) := s3 a _ hE gup_same
    cases hb : b x with
    | true =>
      rw [if_pos rfl]
      refine elt i x G3 σ2 hx hb (w2.trans s3) j3 e2 _ fun G4 s4 j4 => ?_
      refine ⟨s4 a _ hE g3, ?_, G4, Sub.refl, fr.st _ _ _ j4 hE, ((w2.trans s3).trans s4).gup ha, ?_⟩
      · rw [w3, List.length_map]
        have h1 := List.length_filter_le b (xs.take i)
        rw [List.length_take] at h1
        omega
      · rw [take_succ_get hx, List.filter_append, List.map_append, w3, show List.filter b [x] = [x] from by rw [List.filter_cons, hb]; rfl]
        rfl
    | false =>
      rw [if_neg Bool.false_ne_true]
      refine ⟨G3, by rw [gup_self g3]; exact Sub.refl, by rw [gup_self g3]; exact j3, by rw [gup_self g3]; exact w2.trans s3, ?_⟩
      rw [take_succ_get hx, List.filter_append, w3, show List.filter b [x] = [] from by rw [List.filter_cons, hb]; rfl, List.append_nil]
  · rw [List.length_map, List.take_length] at w3
    subst w3
    exact done a _ ha w2 w1 gup_same
theorem keysK_puts {kvs : List (D × D)} (h : KeysK kvs) : KeysK (dputs kvs) := by
  have all : ∀ (ps : List (D × D)) (acc : List (D × D)), KeysK ps → KeysK acc → KeysK (ps.foldl (fun acc p => dput acc p.1 p.2) acc) := by
    intro ps
    induction ps with
    | nil => intro acc _ h; exact h
    | cons p ps ih =>
      intro acc hp h
      refine ih _ (fun p' h' => hp p' (List.mem_cons_of_mem _ h')) ?_
      obtain ⟨kk, ek⟩ := hp p List.mem_cons_self
      show KeysK (dput acc p.1 p.2)
      rw [ek]
      exact keysK_put h
  exact all kvs [] h (fun p hp => nomatch hp)
theorem dc_fn (fr : Fr E J) (hJ : J G1) (xs : List α) (e kf vf : α → D) (hds : ds = xs.map e) (hst : ∀ G', Sx E G1 G' → st G') (hl : xs.length < sizeLine) (hK : ∀ x ∈ xs, ∃ kk, kf x = kD kk)
    (elt : ∀ (i : Nat) x G', xs[i]? = some x → Sx E G1 G' → J G' → ∃ σ2, patD p (e x) (wipeD σ vs) = some σ2 ∧ ∀ (h : D → D → Gp → Prop), (∀ G'', Sx E G' G'' → J G'' → h (kf x) (vf x) G'') → tk σ2 G' fun k G4 => tv σ2 G4 fun v G5 => h k v G5)
    (done : ∀ a G', G1 a = none → Sx E G1 G' → J G' → G' a = some (.dic (dputs (xs.map fun x => (kf x, vf x)))) → q (.ref a) G') : DcB p dYes tk tv vs σ q ds st G1 := by
  intro a ha
  subst hds
  have hE : ¬ E a := fr.fresh hJ ha
  have hKs : ∀ i, KeysK ((xs.take i).map fun x => (kf x, vf x)) := fun i p hp => by
    obtain ⟨x, hx, rfl⟩ := List.mem_map.mp hp
    exact hK x (List.mem_of_mem_take hx)
  refine ⟨fun i acc G => J (gup G a (.dic acc)) ∧ Sx E G1 (gup G a (.dic acc)) ∧ acc = dputs ((xs.take i).map fun x => (kf x, vf x)), ⟨fr.st _ _ _ hJ hE, Sx.refl.gup ha, rfl⟩, fun i acc G w => hst _ w.2.1, fun i d acc G hd ⟨w1, w2, w3⟩ => ?_, fun acc G ⟨w1, w2, w3⟩ => ?_⟩
  · rw [List.getElem?_map] at hd
    obtain ⟨x, hx, rfl⟩ := Option.map_eq_some_iff.mp hd
    obtain ⟨σ2, e2, h2⟩ := elt i x _ hx w2 w1
    refine atPat_mk e2 ?_
    unfold dYes
    dsimp only
    rw [if_pos rfl]
    refine h2 _ fun G4 s4 j4 => ?_
    have hlt : i < xs.length := (List.getElem?_eq_some_iff.mp hx).1
    refine ⟨?_, s4 a _ hE gup_same, by rw [w3]; exact keysK_puts (hKs i), ?_, G4, Sub.refl, fr.st _ _ _ j4 hE, (w2.trans s4).gup ha, ?_⟩
    · obtain ⟨kk, ek⟩ := hK x (List.mem_of_getElem? hx)
      exact ⟨kk, by rw [ek]; cases kk <;> rfl⟩
    · have h1 := dputs_len ((xs.take i).map fun x => (kf x, vf x)) []
      rw [List.length_map, List.length_take, List.length_nil] at h1
      rw [w3]
      unfold dputs
      omega
    · rw [take_succ_get hx, List.map_append, w3]
      unfold dputs
      rw [List.foldl_append]
      rfl
  · rw [List.length_map, List.take_length] at w3
    subst w3
    exact done a _ ha w2 w1 gup_same
end
theorem e_ltI {G : Gp} {q : QD} {i j : Int} (k : q (.bl (decide (i < j))) G) : rLt (.int i) (.int j) G q := k
theorem e_ltN {G : Gp} {q : QD} {i j : Nat} (k : q (.bl (decide (i < j))) G) : rLt (nD i) (nD j) G q := by
  have : decide (i < j) = decide ((i : Int) < (j : Int)) := by
    by_cases h : i < j
    · rw [decide_eq_true h, decide_eq_true (by omega)]
    · rw [decide_eq_false h, decide_eq_false (by omega)]
  rw [this] at k
  exact k
theorem nodup_pair {α β : Type} {l : List α} (nd : l.Nodup) (f : α → β) : ((l.map fun a => (a, f a)).map (·.1)).Nodup := by
  rw [List.map_map]
  show (l.map fun a => a).Nodup
  simpa using nd
theorem enum_il (o : List Nat) : enumD (il o) = o.zipIdx.map fun x => .tup [nD x.2, nD x.1] := by
  refine List.ext_getElem? fun i => ?_
  rw [enumD_get, List.getElem?_map, List.getElem?_map, List.getElem?_zipIdx, Option.map_map, Option.map_map]
  cases o[i]? with
  | none => rfl
  | some a =>
    show some (D.tup [D.int (i : Nat), nD a]) = some (D.tup [nD (0 + i), nD a])
    rw [Nat.zero_add]
    rfl
theorem e_isSeq {G : Gp} {a : Addr} {ds : List D} {r : List D → (Gp → Prop) → Prop} (h : ListAt G a ds) (k : r ds fun G => ListAt G a ds) : isSeq (.ref a) G r := ⟨ds, h, k⟩
theorem e_isSeqT {G : Gp} {ds : List D} {r : List D → (Gp → Prop) → Prop} (k : r ds fun _ => True) : isSeq (.tup ds) G r := k
section
variable {κ α : Type} [DecidableEq κ] {K : κ → D} {V : α → D}
def aputs (m : List (κ × α)) : List (κ × α) := m.foldl (fun acc p => aput acc p.1 p.2) []
theorem dputs_kd (h : KeyFn K) (m : List (κ × α)) : dputs (kd K V m) = kd K V (aputs m) := by
  have all : ∀ (m acc : List (κ × α)), (kd K V m).foldl (fun acc p => dput acc p.1 p.2) (kd K V acc) = kd K V (m.foldl (fun acc p => aput acc p.1 p.2) acc) := by
    intro m
    induction m with
    | nil => intro acc; rfl
    | cons p m ih =>
      intro acc
      show List.foldl _ (dput (kd K V acc) (K p.1) (V p.2)) (kd K V m) = _
      rw [kd_put h, ih]
      rfl
  exact all m []
theorem aputs_nodup {m : List (κ × α)} (h : (m.map (·.1)).Nodup) : aputs m = m := by
  have all : ∀ (m acc : List (κ × α)), ((acc ++ m).map (·.1)).Nodup → m.foldl (fun acc p => aput acc p.1 p.2) acc = acc ++ m := by
    intro m
    induction m with
    | nil => intro acc _; simp
    | cons p m ih =>
      intro acc hn
      have hp : aget acc p.1 = none := by
        rw [aget_none]
        intro z
        rw [List.map_append, List.nodup_append] at hn
        exact hn.2.2 _ z p.1 (by simp) rfl
      rw [List.foldl_cons, aput_new hp, ih _ (by simpa using hn)]
      simp
  have := all m [] (by simpa using h)
  simpa [aputs] using this
theorem aget_map {f : κ → α} {l : List κ} {k : κ} (h : k ∈ l) : aget (l.map fun x => (x, f x)) k = some (f k) := by
  induction l with
  | nil => cases h
  | cons x l ih =>
    unfold aget at ih ⊢
    rw [List.map_cons, List.find?_cons]
    dsimp only
    by_cases e : x = k
    · subst e
      rw [decide_eq_true rfl]
      rfl
    · rw [decide_eq_false e]
      exact ih ((List.mem_cons.mp h).resolve_left fun z => e z.symm)
theorem aget_puts {m : List (κ × α)} {k : κ} {v : α} (h : (k, v) ∈ m) : ∃ v', aget (aputs m) k = some v' ∧ (k, v') ∈ m := by
  have all : ∀ (m acc : List (κ × α)) (v : α), (aget acc k = some v ∨ ∃ v, (k, v) ∈ m) → ∃ v', aget (m.foldl (fun acc p => aput acc p.1 p.2) acc) k = some v' ∧ ((k, v') ∈ m ∨ aget acc k = some v') := by
    intro m
    induction m with
    | nil =>
      intro acc v h
      rcases h with h | ⟨v, h⟩
      · exact ⟨v, h, .inr h⟩
      · cases h
    | cons p m ih =>
      intro acc v h
      rw [List.foldl_cons]
      by_cases e : p.1 = k
      · obtain ⟨v', h1, h2⟩ := ih (aput acc p.1 p.2) p.2 (.inl (by rw [aget_put, if_pos e]))
        refine ⟨v', h1, ?_⟩
        rcases h2 with h2 | h2
        · exact .inl (List.mem_cons_of_mem _ h2)
        · rw [aget_put, if_pos e] at h2
          cases h2
          exact .inl (by rw [← e]; exact List.mem_cons_self)
      · have h' : aget (aput acc p.1 p.2) k = some v ∨ ∃ v, (k, v) ∈ m := by
          rcases h with h | ⟨w, h⟩
          · exact .inl (by rw [aget_put, if_neg e]; exact h)
          · rcases List.mem_cons.mp h with h | h
            · exact absurd (by rw [← h]) e
            · exact .inr ⟨w, h⟩
        obtain ⟨v', h1, h2⟩ := ih (aput acc p.1 p.2) v h'
        refine ⟨v', h1, ?_⟩
        rcases h2 with h2 | h2
        · exact .inl (List.mem_cons_of_mem _ h2)
        · exact .inr (by rw [aget_put, if_neg e] at h2; exact h2)
  obtain ⟨v', h1, h2⟩ := all m [] v (.inr ⟨v, h⟩)
  refine ⟨v', h1, ?_⟩
  rcases h2 with h2 | h2
  · exact h2
  · cases h2
theorem kd_mapP {β : Type} (kf : β → κ) (vf : β → α) (l : List β) : kd K V (l.map fun x => (kf x, vf x)) = l.map fun x => (K (kf x), V (vf x)) := by
  unfold kd
  rw [List.map_map]
  rfl
theorem kd_map {β : Type} {f : β → κ × α} {l : List β} : kd K V (l.map f) = l.map fun x => (K (f x).1, V (f x).2) := by
  unfold kd
  rw [List.map_map]
  rfl
end
end DL
/-! M5: classes as numbers of values. -/
namespace DL.M
section
variable {α : Type} [DecidableEq α]
theorem nodup_get {l : List α} (nd : l.Nodup) {i : Nat} {x : α} (h : l[i]? = some x) : l.idxOf x = i := by
  have hx := List.mem_of_getElem? h
  have h1 := get_idx hx
  obtain ⟨hi, e⟩ := List.getElem?_eq_some_iff.mp h
  obtain ⟨hj, e'⟩ := List.getElem?_eq_some_iff.mp h1
  have np := List.pairwise_iff_getElem.mp nd
  rcases Nat.lt_trichotomy (l.idxOf x) i with c | c | c
  · exact (np _ _ hj hi c (e'.trans e.symm)).elim
  · exact c
  · exact (np _ _ hi hj c (e.trans e'.symm)).elim
/-- numbers of values: as many as there are values -/
theorem vals_idx {S : Nat → Prop} {f : Nat → α} {C : List α} (nd : C.Nodup) (hC : ∀ k, k ∈ C ↔ ∃ a, S a ∧ f a = k) : Vals S (fun a => ix C (f a)) (List.range C.length) := by
  refine ⟨List.nodup_range, fun x => ?_⟩
  rw [List.mem_range]
  constructor
  · intro hx
    obtain ⟨a, sa, e⟩ := (hC C[x]).mp (List.getElem_mem hx)
    exact ⟨a, sa, by
      show C.idxOf (f a) = x
      rw [e]
      exact nodup_get nd (List.getElem?_eq_getElem hx)⟩
  · rintro ⟨a, sa, rfl⟩
    exact List.idxOf_lt_length_of_mem ((hC _).mpr ⟨a, sa, rfl⟩)
theorem idx_iff {S : Nat → Prop} {f : Nat → α} {C : List α} (hC : ∀ k, k ∈ C ↔ ∃ a, S a ∧ f a = k) {a b : Nat} (sa : S a) : ix C (f a) = ix C (f b) ↔ f a = f b :=
  ⟨fun e => idx_inj ((hC _).mpr ⟨a, sa, rfl⟩) e, fun e => by rw [e]⟩
end
end DL.M
/-! P9: classes_of: rows of one class write the same. -/
namespace DL.K81
open PySem PySem.Spec PyProof.Rows L2 DL
local macro_rules
  | `(tactic| infer_instance) => `(tactic| first
    | with_reducible refine x_seq ?_
    | with_reducible refine x_asgN ?_
    | with_reducible refine x_asg ?_
    | with_reducible refine x_drop ?_
    | with_reducible refine x_ret ?_
    | with_reducible refine x_if ?_
    | with_reducible refine x_par ?_
    | with_reducible refine x_par3 ?_
    | with_reducible refine x_next ?_
    | with_reducible refine x_break ?_
    | with_reducible refine x_cont ?_
    | ((with_reducible refine x_var ?_); refine look rfl ?_)
    | with_reducible refine x_c ?_
    | with_reducible refine x_op ?_
    | with_reducible refine x_un ?_
    | with_reducible refine x_nil ?_
    | with_reducible refine x_cons ?_
    | with_reducible refine x_star ?_
    | with_reducible refine x_cb ?_
    | with_reducible refine x_bm ?_
    | with_reducible refine x_call ?_
    | with_reducible refine x_callK ?_
    | with_reducible refine x_tup ?_
    | with_reducible refine x_lst ?_
    | with_reducible refine x_newD ?_
    | with_reducible refine x_test ?_
    | with_reducible refine x_not ?_
    | with_reducible refine x_and ?_
    | with_reducible refine x_or ?_
    | with_reducible refine x_ifE ?_
    | with_reducible refine x_notV ?_
    | with_reducible refine x_yes ?_
    | with_reducible refine x_gname ?_
    | with_reducible refine x_gnil ?_
    | with_reducible refine x_gcons ?_
    | with_reducible refine x_gtup rfl ?_
    | with_reducible refine x_gsub ?_
    | with_reducible refine x_it ?_
    | with_reducible refine x_range1 ?_
    | with_reducible refine x_enum ?_
    | with_reducible refine x_lc ?_
    | with_reducible refine x_dc ?_
    | with_reducible refine x_for ?_
    | with_reducible refine e_rev ?_
    | with_reducible refine x_arg1 ?_
    | with_reducible refine x_arg2 ?_
    | with_reducible refine x_arg3 ?_
    | with_reducible refine x_isB ?_
    | with_reducible refine x_isI ?_
    | with_reducible refine x_items ?_
    | with_reducible refine x_values ?_
    | with_reducible refine x_keys ?_
    | with_reducible refine x_listV ?_
    | with_reducible refine x_sumV ?_
    | with_reducible refine x_listItems ?_
    | with_reducible refine x_sortItems ?_
    | with_reducible refine x_zipL ?_
    | with_reducible refine x_lenSetI ?_
    | with_reducible refine x_sortSet ?_
    | with_reducible refine x_isI' ?_
    | with_reducible refine x_dpN ?_
    | with_reducible refine x_dpC ?_
    | with_reducible refine x_slice ?_
    | with_reducible refine x_noPart ?_
    | with_reducible refine x_part ?_
    | with_reducible refine x_listR2 ?_
    | with_reducible refine x_range2 ?_
    | ((with_reducible refine x_augI ?_); refine augK rfl ?_))
section
def tgs (g : M.Gr Str) (i : Nat) : Str := match g i with
  | some (t, _) => t
  | none => ""
theorem tgs_of {g : M.Gr Str} {i : Nat} {t : Str} {fs : List Nat} (h : g i = some (t, fs)) : tgs g i = t := by
  unfold tgs
  rw [h]
theorem tgs_tg {g : M.Gr Str} {S : Nat → Prop} (hS : M.Closed g S) {a b : Nat} (sa : S a) (sb : S b) : tgs g a = tgs g b ↔ M.tg g a = M.tg g b := by
  obtain ⟨t, fs, e, _⟩ := hS a sa
  obtain ⟨t', fs', e', _⟩ := hS b sb
  unfold M.tg
  rw [tgs_of e, tgs_of e', e, e']
  simp
def Sclassesof : SpD := fun ds G q => ∃ d g u U, ds = [d, .ref u] ∧ RowsAt G d g ∧ G u = some (.lst (il U)) ∧ U.Nodup ∧ M.Closed g (· ∈ U) ∧ U.length < 2 ^ 20 ∧ (∀ a, (M.fld g a).length ≤ 8) ∧
  ∀ p (κ : Nat → Nat) G', G p = none → Sx no G G' → (∀ a b, a ∈ U → b ∈ U → (κ a = κ b ↔ M.Bis g a g b)) → (∀ a, a ∈ U → κ a < U.length) → G' p = some (.dic (kd nD nD (U.map fun a => (a, κ a)))) → q (.ref p) G'
theorem rdclassesof (ds : List D) (G : Gp) (q : QD) (h : Sclassesof ds G q) : tclassesof Snumbered { nx := fun _ G' => fin (q .non) G', rt := fun d G' => fin (q d) G' } (startD Nclassesof ds) G := by
  obtain ⟨d, g, u, U, rfl, hr, hu, nd, hS, hl, hf, k⟩ := h
  have hsl : U.length < sizeLine := by rw [sizeLine_eq]; omega
  have ndm : ∀ {β : Type} (f : Nat → β), ((U.map fun a => (a, f a)).map (·.1)).Nodup := fun f => nodup_pair nd f
  unfold tclassesof
  repeat infer_instance
  refine i_lst hu ?_
  refine dc_fn Fr.no trivial U nD nD (fun i => .str (tgs g i)) rfl (fun G' s => .inl (s u _ id hu)) hsl (fun x _ => ⟨.inl (x : Int), rfl⟩) (fun i x G' hx s _ => ⟨_, rfl, fun h hh => ?_⟩) fun a1 G1 h1 s1 _ e1 => ?_
  · obtain ⟨t, fs, et, _⟩ := hS x (List.mem_of_getElem? hx)
    repeat infer_instance
    refine rows_ix (hr.mono s) et fun y hy => ?_
    repeat infer_instance
    refine row_tag ?_
    rw [← tgs_of et]
    exact hh G' Sx.refl trivial
  have e1' : G1 a1 = some (.dic (kd nD D.str (U.map fun i => (i, tgs g i)))) := by
    rw [e1, show (U.map fun x => (nD x, D.str (tgs g x))) = kd nD D.str (U.map fun i => (i, tgs g i)) from (kd_mapP (K := nD) (V := D.str) (fun i => i) (tgs g) U).symm, dputs_kd key_nat, aputs_nodup (ndm _)]
  repeat infer_instance
  refine ⟨Str, inferInstance, D.str, a1, _, key_str, rfl, e1', ndm _, by rw [List.length_map]; exact hl, fun p C G2 h2 s2 ndC hC e2 => ?_⟩
  have hC' : ∀ k, k ∈ C ↔ ∃ a, a ∈ U ∧ tgs g a = k := fun k => by
    rw [hC, List.map_map]
    exact List.mem_map
  have e2' : G2 p = some (.dic (kd nD nD (U.map fun a => (a, M.ix C (tgs g a))))) := by
    rw [e2, List.map_map]
    rfl
  repeat infer_instance
  refine ⟨fun m σ H => ∃ (κ : Nat → Nat) (p : Addr) (cnt bef : Nat) (x4 x6 x7 : Option D), σ = [some d, some (.ref u), some (.ref p), some (nD cnt), x4, some (nD bef), x6, x7] ∧ Sx no G H ∧ G p = none ∧ H p = some (.dic (kd nD nD (U.map fun a => (a, κ a)))) ∧ M.Ref g (· ∈ U) κ ∧ M.Vals (· ∈ U) κ (List.range cnt) ∧ bef ≤ cnt ∧
    (bef = 0 ∨ ∃ κp : Nat → Nat, M.Ref g (· ∈ U) κp ∧ M.Nxt g (· ∈ U) κp κ ∧ M.Vals (· ∈ U) κp (List.range bef)) ∧ m = U.length + 1 - bef,
    ⟨_, fin.of ⟨fun a => M.ix C (tgs g a), p, C.length, 0, none, none, none, rfl, s1.trans s2, s1.bk h2, e2', M.Ref.start fun a b sa sb => (M.idx_iff hC' sa).trans (tgs_tg hS sa sb), M.vals_idx ndC hC', Nat.zero_le _, .inl rfl, rfl⟩⟩, fun m σ H ⟨κ, p, cnt, bef, x4, x6, x7, hσ, sH, hp, ep, hR, hV, hb, hh, hm⟩ => ?_⟩
  subst hσ
  have hcnt : cnt ≤ U.length := by
    have h1 := M.len_le_sub (D := U.map κ) hV.nd fun x hx => by
      obtain ⟨a, sa, e⟩ := (hV.mem x).mp hx
      exact List.mem_map.mpr ⟨a, sa, e⟩
    simpa using h1
  repeat infer_instance
  refine e_ltN ?_
  repeat infer_instance
  by_cases hlt : bef < cnt
  · rw [decide_eq_true hlt, if_pos rfl]
    repeat infer_instance
    have huH := sH u _ id hu
    refine i_lst huH ?_
    refine dc_fn Fr.no trivial U nD nD (fun i => .tup (il (κ i :: (M.fld g i).map κ))) rfl (fun G' s => .inl (s u _ id huH)) hsl (fun x _ => ⟨.inl (x : Int), rfl⟩) (fun i x G' hx s _ => ⟨_, rfl, fun h hh => ?_⟩) fun a1 G1 h1 s1 _ e1 => ?_
    · have sx := List.mem_of_getElem? hx
      obtain ⟨t, fs, et, hfs⟩ := hS x sx
      have hgl : ∀ {G'} {y} {q : QD}, Sx no H G' → y ∈ U → q (nD (κ y)) G' → rIx (.ref p) (.int (y : Nat)) G' q := fun {G'} {y} {q} s hy kq => by
        refine e_ixD (.inl (s p _ id ep)) (kd_fits key_nat _ y) ?_ kq
        have := kd_get (V := nD) key_nat (U.map fun a => (a, κ a)) y
        rw [aget_map hy] at this
        exact this
      repeat infer_instance
      refine hgl s sx ?_
      repeat infer_instance
      refine rows_ix (hr.mono (sH.trans s)) et fun y hy => ?_
      repeat infer_instance
      refine row_fld ?_
      refine fld_it hy fun st hst => ?_
      refine lc_fn Fr.no trivial fs nD (fun f => nD (κ f)) rfl hst (by have := hf x; rw [M.fld_of et] at this; exact szl (by omega)) (fun j z G2 hz s2 _ => ⟨_, rfl, fun kk hk => ?_⟩) fun b G3 hb s3 _ e3 => ?_
      · repeat infer_instance
        exact hgl (s.trans s2) (hfs z (List.mem_of_getElem? hz)) (hk G2 Sx.refl trivial)
      · refine e_isSeq (.inl e3) ?_
        repeat infer_instance
        refine ⟨by have := hf x; rw [M.fld_of et] at this; exact sz (by simp; omega), ?_⟩
        have := hh G3 s3 trivial
        rw [M.fld_of et] at this
        simpa [Function.comp_def] using this
    · have e1' : G1 a1 = some (.dic (kd nD (fun l : List Nat => D.tup (il l)) (U.map fun i => (i, κ i :: (M.fld g i).map κ)))) := by
        rw [e1, show (U.map fun x => (nD x, D.tup (il (κ x :: (M.fld g x).map κ)))) = kd nD (fun l : List Nat => D.tup (il l)) (U.map fun i => (i, κ i :: (M.fld g i).map κ)) from (kd_mapP (K := nD) (V := fun l : List Nat => D.tup (il l)) (fun i => i) (fun i => κ i :: (M.fld g i).map κ) U).symm, dputs_kd key_nat, aputs_nodup (ndm _)]
      repeat infer_instance
      refine ⟨List Nat, inferInstance, fun l => .tup (il l), a1, _, key_tup, rfl, e1', ndm _, by rw [List.length_map]; exact hl, fun p2 C G2 h2 s2 ndC hC e2 => ?_⟩
      have hC' : ∀ k, k ∈ C ↔ ∃ a, a ∈ U ∧ (κ a :: (M.fld g a).map κ) = k := fun k => by
        rw [hC, List.map_map]
        exact List.mem_map
      have e2' : G2 p2 = some (.dic (kd nD nD (U.map fun a => (a, M.ix C (κ a :: (M.fld g a).map κ))))) := by
        rw [e2, List.map_map]
        rfl
      repeat infer_instance
      have nx : M.Nxt g (· ∈ U) κ (fun a => M.ix C (κ a :: (M.fld g a).map κ)) := fun a b sa sb => by
        refine (M.idx_iff hC' sa).trans ?_
        simp
      have hV2 := M.vals_idx (S := (· ∈ U)) ndC hC'
      have hle := hV.le hV2 fun a b sa sb e => ((nx a b sa sb).mp e).1
      exact ⟨_, by omega, fin.of ⟨fun a => M.ix C (κ a :: (M.fld g a).map κ), p2, C.length, cnt, _, _, _, rfl, (sH.trans s1).trans s2, (sH.trans s1).bk h2, e2', hR.next hS nx, hV2, by simpa using hle, .inr ⟨κ, hR, nx, hV⟩, rfl⟩⟩
  · rw [decide_eq_false hlt, if_neg (by decide)]
    repeat infer_instance
    have hcb : cnt ≤ bef := by omega
    refine fin.of (k p κ H hp sH (fun a b sa sb => ?_) (fun a sa => ?_) ep)
    · rcases hh with h0 | ⟨κp, r, n, v⟩
      · have := (hV.mem (κ a)).mpr ⟨a, sa, rfl⟩
        rw [List.mem_range] at this
        omega
      · exact r.done hS n v hV (by simpa using hcb) sa sb
    · have := (hV.mem (κ a)).mpr ⟨a, sa, rfl⟩
      rw [List.mem_range] at this
      omega
end
end DL.K81
/-! M6: the rows of a least sheet come from rows; classes as rows. -/
namespace DL.M
section
variable {τ : Type} {g : Gr τ} {S : Nat → Prop} {r : Nat} {rows : List (τ × List Nat)}
theorem IsLeast.onto (h : IsLeast g r rows) (c : Closed g S) (hr : S r) {i : Nat} (hi : i < rows.length) : ∃ a, S a ∧ Bis g a (gr rows) i := by
  have := (Come.all (S := fun i => ∃ a, S a ∧ Bis g a (gr rows) i) ⟨r, hr, h.bis⟩ (fun i ⟨a, sa, b⟩ x hx => by
    obtain ⟨y, hy, e⟩ := (bis_fld b).memR hx
    exact ⟨y, c.fld sa y hy, e⟩) h.ord).2
  exact this i (List.mem_range.mpr hi)
theorem IsLeast.len_le (h : IsLeast g r rows) (c : Closed g S) (hr : S r) {N : Nat} (hN : ∀ a, S a → a < N) : rows.length ≤ N := by
  have := len_le_rel (C := List.range rows.length) (D := List.range N) (R := fun a i => Bis g a (gr rows) i) List.nodup_range (fun i hi => by
    obtain ⟨a, sa, b⟩ := h.onto c hr (List.mem_range.mp hi)
    exact ⟨a, List.mem_range.mpr (hN a sa), b⟩) fun a i j hi hj bi bj => h.sep i j bi.lt bj.lt (bi.symm.trans bj)
  simpa using this
theorem IsLeast.row (h : IsLeast g r rows) (c : Closed g S) (hr : S r) {i : Nat} {t : τ} {fs : List Nat} (e : rows[i]? = some (t, fs)) : ∃ a fs', S a ∧ g a = some (t, fs') ∧ fs'.length = fs.length := by
  obtain ⟨a, sa, b⟩ := h.onto c hr (List.getElem?_eq_some_iff.mp e).1
  obtain ⟨t', gs, gs', e1, e2, f⟩ := b.step
  have e2 : rows[i]? = some (t', gs') := e2
  rw [e] at e2
  cases e2
  exact ⟨a, gs, sa, e1, f.len⟩
/-! ### classes as rows -/
def quo (g : Gr τ) (U : List Nat) (κ : Nat → Nat) : Gr τ := fun c => (U.find? fun x => decide (κ x = c)).bind fun x => (g x).map fun p => (p.1, p.2.map κ)
variable {U : List Nat} {κ : Nat → Nat}
theorem quo_at (c : Closed g (· ∈ U)) (hk : ∀ a b, a ∈ U → b ∈ U → (κ a = κ b ↔ Bis g a g b)) {x : Nat} {t : τ} {fs : List Nat} (hx : x ∈ U) (e : g x = some (t, fs)) : quo g U κ (κ x) = some (t, fs.map κ) := by
  unfold quo
  cases hf : U.find? fun y => decide (κ y = κ x) with
  | none => exact absurd (decide_eq_true rfl) (List.find?_eq_none.mp hf x hx)
  | some y =>
    have hy := List.mem_of_find?_eq_some hf
    have ey : κ y = κ x := by simpa using List.find?_some hf
    obtain ⟨t', gs, gs', e1, e2, f⟩ := ((hk y x hy hx).mp ey).step
    rw [e] at e2
    cases e2
    show ((g y).map fun p => (p.1, p.2.map κ)) = _
    rw [e1]
    show some (_, gs.map κ) = _
    have : gs.map κ = fs.map κ := (f.impM fun p hp q hq b => by
      obtain ⟨t2, fs2, e4, h4⟩ := c y hy
      rw [e1] at e4
      cases e4
      obtain ⟨t3, fs3, e5, h5⟩ := c x hx
      rw [e] at e5
      cases e5
      exact (hk p q (h4 p hp) (h5 q hq)).mpr b).map_eq
    rw [this]
theorem quo_of {cc : Nat} {t : τ} {fs : List Nat} (e : quo g U κ cc = some (t, fs)) : ∃ x fs', x ∈ U ∧ κ x = cc ∧ g x = some (t, fs') ∧ fs = fs'.map κ := by
  unfold quo at e
  cases hf : U.find? fun y => decide (κ y = cc) with
  | none => rw [hf] at e; cases e
  | some y =>
    rw [hf] at e
    have hy := List.mem_of_find?_eq_some hf
    have ey : κ y = cc := by simpa using List.find?_some hf
    have e : ((g y).map fun p => (p.1, p.2.map κ)) = some (t, fs) := e
    obtain ⟨p, e1, e2⟩ := Option.map_eq_some_iff.mp e
    cases e2
    exact ⟨y, p.2, hy, ey, e1, rfl⟩
theorem quo_bis (c : Closed g (· ∈ U)) (hk : ∀ a b, a ∈ U → b ∈ U → (κ a = κ b ↔ Bis g a g b)) {x : Nat} (hx : x ∈ U) : Bis g x (quo g U κ) (κ x) := by
  refine ⟨fun a i => a ∈ U ∧ i = κ a, ⟨fun a i ⟨ha, e⟩ => ?_⟩, hx, rfl⟩
  subst e
  obtain ⟨t, fs, e, hf⟩ := c a ha
  exact ⟨t, fs, fs.map κ, e, quo_at c hk ha e, F2.mapR.mpr (F2.refl fun f hm => ⟨hf f hm, rfl⟩)⟩
theorem quo_closed (c : Closed g (· ∈ U)) (hk : ∀ a b, a ∈ U → b ∈ U → (κ a = κ b ↔ Bis g a g b)) : Closed (quo g U κ) fun i => ∃ x, x ∈ U ∧ κ x = i := fun i ⟨x, hx, e⟩ => by
  subst e
  obtain ⟨t, fs, e, hf⟩ := c x hx
  refine ⟨t, fs.map κ, quo_at c hk hx e, fun f hm => ?_⟩
  obtain ⟨y, hy, rfl⟩ := List.mem_map.mp hm
  exact ⟨y, hf y hy, rfl⟩
theorem quo_sep (c : Closed g (· ∈ U)) (hk : ∀ a b, a ∈ U → b ∈ U → (κ a = κ b ↔ Bis g a g b)) {i j : Nat} (hi : ∃ x, x ∈ U ∧ κ x = i) (hj : ∃ x, x ∈ U ∧ κ x = j) (b : Bis (quo g U κ) i (quo g U κ) j) : i = j := by
  obtain ⟨x, hx, rfl⟩ := hi
  obtain ⟨y, hy, rfl⟩ := hj
  exact (hk x y hx hy).mpr (((quo_bis c hk hx).trans b).trans (quo_bis c hk hy).symm)
theorem quo_least (c : Closed g (· ∈ U)) (hk : ∀ a b, a ∈ U → b ∈ U → (κ a = κ b ↔ Bis g a g b)) (hr : r ∈ U) (h : IsLeast (quo g U κ) (κ r) rows) : IsLeast g r rows := h.of (quo_bis c hk hr)
end
end DL.M
/-! P10: renumbered, reduced, least_sheet: the least sheet. -/
namespace DL.K81
open PySem PySem.Spec PyProof.Rows L2 DL
local macro_rules
  | `(tactic| infer_instance) => `(tactic| first
    | with_reducible refine x_seq ?_
    | with_reducible refine x_asgN ?_
    | with_reducible refine x_asg ?_
    | with_reducible refine x_drop ?_
    | with_reducible refine x_ret ?_
    | with_reducible refine x_if ?_
    | with_reducible refine x_par ?_
    | with_reducible refine x_par3 ?_
    | with_reducible refine x_next ?_
    | with_reducible refine x_break ?_
    | with_reducible refine x_cont ?_
    | ((with_reducible refine x_var ?_); refine look rfl ?_)
    | with_reducible refine x_c ?_
    | with_reducible refine x_op ?_
    | with_reducible refine x_un ?_
    | with_reducible refine x_nil ?_
    | with_reducible refine x_cons ?_
    | with_reducible refine x_star ?_
    | with_reducible refine x_cb ?_
    | with_reducible refine x_bm ?_
    | with_reducible refine x_call ?_
    | with_reducible refine x_callK ?_
    | with_reducible refine x_tup ?_
    | with_reducible refine x_lst ?_
    | with_reducible refine x_newD ?_
    | with_reducible refine x_test ?_
    | with_reducible refine x_not ?_
    | with_reducible refine x_and ?_
    | with_reducible refine x_or ?_
    | with_reducible refine x_ifE ?_
    | with_reducible refine x_notV ?_
    | with_reducible refine x_yes ?_
    | with_reducible refine x_gname ?_
    | with_reducible refine x_gnil ?_
    | with_reducible refine x_gcons ?_
    | with_reducible refine x_gtup rfl ?_
    | with_reducible refine x_gsub ?_
    | with_reducible refine x_it ?_
    | with_reducible refine x_range1 ?_
    | with_reducible refine x_enum ?_
    | with_reducible refine x_lc ?_
    | with_reducible refine x_dc ?_
    | with_reducible refine x_for ?_
    | with_reducible refine e_rev ?_
    | with_reducible refine x_arg1 ?_
    | with_reducible refine x_arg2 ?_
    | with_reducible refine x_arg3 ?_
    | with_reducible refine x_isB ?_
    | with_reducible refine x_isI ?_
    | with_reducible refine x_items ?_
    | with_reducible refine x_values ?_
    | with_reducible refine x_keys ?_
    | with_reducible refine x_listV ?_
    | with_reducible refine x_sumV ?_
    | with_reducible refine x_listItems ?_
    | with_reducible refine x_sortItems ?_
    | with_reducible refine x_zipL ?_
    | with_reducible refine x_lenSetI ?_
    | with_reducible refine x_sortSet ?_
    | with_reducible refine x_isI' ?_
    | with_reducible refine x_dpN ?_
    | with_reducible refine x_dpC ?_
    | with_reducible refine x_slice ?_
    | with_reducible refine x_noPart ?_
    | with_reducible refine x_part ?_
    | with_reducible refine x_listR2 ?_
    | with_reducible refine x_range2 ?_
    | ((with_reducible refine x_augI ?_); refine augK rfl ?_))
section
abbrev Sheet := List (Str × List Nat)
abbrev rowD (p : Str × List Nat) : D := .tup [.str p.1, .tup (il p.2)]
def sheetD (rows : Sheet) : D := .tup (rows.map rowD)
theorem sheet_rows (G : Gp) (rows : Sheet) : RowsAt G (sheetD rows) (M.gr rows) := .inl ⟨_, rfl, fun i t fs e => by
  have e : rows[i]? = some (t, fs) := e
  exact ⟨.tup (il fs), by rw [List.getElem?_map, e]; rfl, .inl rfl⟩⟩
/-- what the rows' makers ask -/
structure Rw (G : Gp) (d : D) (g : M.Gr Str) (r N : Nat) (S : Nat → Prop) : Prop where
  at_ : RowsAt G d g
  cl : M.Closed g S
  root : S r
  lt : ∀ a, S a → a < N
  few : N < 2 ^ 20
  arity : ∀ a, (M.fld g a).length ≤ 8
def Srenumbered : SpD := fun ds G q => ∃ d g r N S, ds = [d, nD r] ∧ Rw G d g r N S ∧ (∀ a b, S a → S b → M.Bis g a g b → a = b) ∧
  ∀ rows G', Sx no G G' → M.IsLeast g r rows → q (sheetD rows) G'
theorem rdrenumbered (ds : List D) (G : Gp) (q : QD) (h : Srenumbered ds G q) : trenumbered Sreached { nx := fun _ G' => fin (q .non) G', rt := fun d G' => fin (q d) G' } (startD Nrenumbered ds) G := by
  obtain ⟨d, g, r, N, S, rfl, ⟨hr, hS, sr, hN, hN2, hf⟩, hsep, k⟩ := h
  unfold trenumbered
  repeat infer_instance
  refine ⟨d, g, r, N, rfl, hr, ⟨S, hS, sr, hN⟩, hN2, hf, fun p o G1 h1 s1 e1 hc => ?_⟩
  have fS : ∀ a, S a → ∀ x ∈ M.fld g a, S x := fun a ha => hS.fld ha
  obtain ⟨_, oS⟩ := hc.all sr fS
  have nd : o.Nodup := by simpa using hc.nodup
  have ol : o.length ≤ N := M.nodup_le nd fun a ha => hN a (oS a ha)
  have ol2 : o.length < sizeLine := by rw [sizeLine_eq]; omega
  have oin : ∀ a ∈ o, ∀ x ∈ M.fld g a, x ∈ o := fun a ha x hx => by
    rcases (hc.leads).2 a ha x hx with h | h
    · simpa using h
    · cases h
  repeat infer_instance
  refine e_isSeq (.inl e1) ?_
  refine dc_fn Fr.no trivial o.zipIdx (fun x => .tup [nD x.2, nD x.1]) (fun x => nD x.1) (fun x => nD x.2) (enum_il o) (fun G' s => .inl (s p _ id e1)) (by rw [List.length_zipIdx]; exact ol2) (fun x _ => ⟨.inl (x.1 : Int), rfl⟩) (fun i x G' hx s _ => ⟨_, rfl, fun h hh => ?_⟩) fun a2 G2 h2 s2 _ e2 => ?_
  · repeat infer_instance
    exact hh G' Sx.refl trivial
  have e2' : G2 a2 = some (.dic (kd nD nD o.zipIdx)) := by
    rw [e2, ← kd_mapP (K := nD) (V := nD) (fun x : Nat × Nat => x.1) (fun x => x.2), dputs_kd key_nat, aputs_nodup]
    · simp
    · simpa using nd
  repeat infer_instance
  have e1' := s2 p _ id e1
  refine i_lst e1' ?_
  refine lc_fn Fr.no trivial o nD (fun a => rowD (tgs g a, (M.fld g a).map fun x => o.idxOf x)) rfl (fun G' s => .inl (s p _ id e1')) ol2 (fun i a G' ha s _ => ⟨_, rfl, fun h hh => ?_⟩) fun a3 G3 h3 s3 _ e3 => ?_
  · have ao := List.mem_of_getElem? ha
    obtain ⟨t, fs, ea, _⟩ := hS a (oS a ao)
    have hr' := hr.mono ((s1.trans s2).trans s)
    repeat infer_instance
    refine rows_ix hr' ea fun y hy => ?_
    repeat infer_instance
    refine row_tag ?_
    repeat infer_instance
    refine rows_ix hr' ea fun y hy => ?_
    repeat infer_instance
    refine row_fld ?_
    refine fld_it hy fun st hst => ?_
    have hfs : M.fld g a = fs := M.fld_of ea
    refine lc_fn Fr.no trivial fs nD (fun x => nD (o.idxOf x)) rfl hst (by have := hf a; rw [hfs] at this; exact szl (by omega)) (fun j x G4 hx s4 _ => ⟨_, rfl, fun h4 hh4 => ?_⟩) fun b G4 hb s4 _ e4 => ?_
    · have xo : x ∈ o := oin a ao x (by rw [hfs]; exact List.mem_of_getElem? hx)
      repeat infer_instance
      refine e_ixD (.inl (s4 a2 _ id (s a2 _ id e2'))) (kd_fits key_nat _ x) ?_ (hh4 G4 Sx.refl trivial)
      have := kd_get (V := nD) key_nat o.zipIdx x
      rw [aget_zipIdx xo] at this
      exact this
    · repeat infer_instance
      refine e_tuple (.inl e4) ?_
      repeat infer_instance
      refine ⟨sz (by simp), ?_⟩
      have := hh G4 s4 trivial
      unfold rowD at this
      rw [tgs_of ea, hfs] at this
      simpa [Function.comp_def] using this
  · repeat infer_instance
    refine e_tuple (.inl e3) (fin.of ?_)
    have hres := k (o.map fun a => (tgs g a, (M.fld g a).map fun x => o.idxOf x)) G3 ((s1.trans s2).trans s3) ?_
    · unfold sheetD at hres
      rw [List.map_map] at hres
      exact hres
    · refine M.least_of_walk (S := S) (κ := id) hS sr (fun a b sa sb => ⟨fun e => ?_, hsep a b sa sb⟩) hc ?_
      · have e : a = b := e
        subst e
        exact hS.bis sa
      · refine M.F2.mapR.mpr (M.F2.refl fun a ha => ?_)
        obtain ⟨t, fs, ea, _⟩ := hS a (oS a ha)
        refine ⟨t, fs, ea, ?_⟩
        rw [tgs_of ea, M.fld_of ea, List.map_id]
        rfl
theorem merged_pairs {κ : Nat → Nat} {P : Nat → D → Prop} : ∀ {o : List Nat} {prs : List (D × D)}, F2 (fun x (p : D × D) => ∃ x', nD x = nD x' ∧ p.1 = nD (κ x') ∧ P x' p.2) o prs → ∃ mp : List (Nat × D), prs = kd nD id mp ∧ F2 (fun x (p : Nat × D) => p.1 = κ x ∧ P x p.2) o mp
  | _, _, .nil => ⟨[], rfl, .nil⟩
  | x :: o, p :: prs, .cons ⟨x', h1, h2, h3⟩ f => by
    obtain ⟨mp, e1, e2⟩ := merged_pairs f
    have hx : x = x' := Int.ofNat.inj (D.int.inj h1)
    subst hx
    refine ⟨(κ x, p.2) :: mp, ?_, .cons ⟨rfl, h3⟩ e2⟩
    rw [e1]
    show (p.1, p.2) :: _ = (nD (κ x), p.2) :: _
    rw [h2]
    rfl
def Sreduced : SpD := fun ds G q => ∃ d g r N S, ds = [d, nD r] ∧ Rw G d g r N S ∧ ∀ rows G', Sx no G G' → M.IsLeast g r rows → q (sheetD rows) G'
theorem rdreduced (ds : List D) (G : Gp) (q : QD) (h : Sreduced ds G q) : treduced Sreached Sclassesof Srenumbered { nx := fun _ G' => fin (q .non) G', rt := fun d G' => fin (q d) G' } (startD Nreduced ds) G := by
  obtain ⟨d, g, r, N, S, rfl, ⟨hr, hS, sr, hN, hN2, hf⟩, k⟩ := h
  unfold treduced
  repeat infer_instance
  refine ⟨d, g, r, N, rfl, hr, ⟨S, hS, sr, hN⟩, hN2, hf, fun p o G1 h1 s1 e1 hc => ?_⟩
  have fS : ∀ a, S a → ∀ x ∈ M.fld g a, S x := fun a ha => hS.fld ha
  obtain ⟨_, oS⟩ := hc.all sr fS
  have nd : o.Nodup := by simpa using hc.nodup
  have ol : o.length ≤ N := M.nodup_le nd fun a ha => hN a (oS a ha)
  have oin : ∀ a ∈ o, ∀ x ∈ M.fld g a, x ∈ o := fun a ha x hx => by
    rcases (hc.leads).2 a ha x hx with h | h
    · simpa using h
    · cases h
  have ro : r ∈ o := by
    rcases (hc.leads).1 with h | h
    · simpa using h
    · cases h
  have oc : M.Closed g (· ∈ o) := fun a ha => by
    obtain ⟨t, fs, ea, _⟩ := hS a (oS a ha)
    exact ⟨t, fs, ea, fun x hx => oin a ha x (by rw [M.fld_of ea]; exact hx)⟩
  repeat infer_instance
  refine ⟨d, g, p, o, rfl, hr.mono s1, e1, nd, oc, by omega, hf, fun p2 κ G2 h2 s2 hk hlt e2 => ?_⟩
  repeat infer_instance
  have e1' := s2 p _ id e1
  have hgl : ∀ {G'} {y} {q : QD}, Sx no G2 G' → y ∈ o → q (nD (κ y)) G' → rIx (.ref p2) (.int (y : Nat)) G' q := fun {G'} {y} {q} s hy kq => by
    refine e_ixD (.inl (s p2 _ id e2)) (kd_fits key_nat _ y) ?_ kq
    have := kd_get (V := nD) key_nat (o.map fun a => (a, κ a)) y
    rw [aget_map hy] at this
    exact this
  refine i_lst e1' ?_
  refine dc_run Fr.no trivial (fun a d k v G => ∃ x t fs b, d = nD x ∧ x ∈ o ∧ g x = some (t, fs) ∧ k = nD (κ x) ∧ v = .tup [.str t, .ref b] ∧ b ≠ a ∧ G b = some (.lst (il (fs.map κ)))) (fun G' s => .inl (s p _ id e1')) (by rw [List.length_map, sizeLine_eq]; omega)
    (fun a d k v G G' _ s ⟨x, t, fs, b, h1, h2, h3, h4, h5, h6, h7⟩ => ⟨x, t, fs, b, h1, h2, h3, h4, h5, h6, s b _ id h7⟩)
    (fun a d k v G m ⟨x, t, fs, b, h1, h2, h3, h4, h5, h6, h7⟩ => ⟨x, t, fs, b, h1, h2, h3, h4, h5, h6, by rw [gup_ne h6]; exact h7⟩)
    (fun a d k v G ⟨x, t, fs, b, h1, h2, h3, h4, _⟩ => ⟨.inl (κ x : Int), h4⟩)
    (fun i dx G' a acc hd s _ ha _ hacc => ?_) fun a3 prs G3 h3 s3 _ e3 f3 => ?_
  · obtain ⟨x, hx, rfl⟩ := il_gev hd
    have xo := List.mem_of_getElem? hx
    obtain ⟨t, fs, ex, _⟩ := hS x (oS x xo)
    have hr' := hr.mono ((s1.trans s2).trans s)
    refine ⟨_, rfl, fun h hh => ?_⟩
    repeat infer_instance
    refine hgl s xo ?_
    repeat infer_instance
    refine rows_ix hr' ex fun y hy => ?_
    repeat infer_instance
    refine row_tag ?_
    repeat infer_instance
    refine rows_ix hr' ex fun y hy => ?_
    repeat infer_instance
    refine row_fld ?_
    refine fld_it hy fun st hst => ?_
    have hfs : M.fld g x = fs := M.fld_of ex
    refine lc_fn Fr.no trivial fs nD (fun z => nD (κ z)) rfl hst (by have := hf x; rw [hfs] at this; exact szl (by omega)) (fun j z G4 hz s4 _ => ⟨_, rfl, fun h4 hh4 => ?_⟩) fun b G4 hb s4 _ e4 => ?_
    · repeat infer_instance
      exact hgl (s.trans s4) (oin x xo z (by rw [hfs]; exact List.mem_of_getElem? hz)) (hh4 G4 Sx.refl trivial)
    · repeat infer_instance
      refine ⟨sz (by simp), hh _ _ G4 s4 trivial ⟨x, t, fs, b, rfl, xo, ex, rfl, rfl, ?_, ?_⟩⟩
      · rintro rfl
        rw [hacc] at hb
        cases hb
      · rw [e4]
        simp [Function.comp_def]
  · repeat infer_instance
    refine hgl s3 ro ?_
    repeat infer_instance
    have hmp : ∃ mp : List (Nat × D), prs = kd nD id mp ∧ F2 (fun x (p : Nat × D) => p.1 = κ x ∧ ∃ t fs b, x ∈ o ∧ g x = some (t, fs) ∧ p.2 = .tup [.str t, .ref b] ∧ G3 b = some (.lst (il (fs.map κ)))) o mp := by
      refine merged_pairs (P := fun x v => ∃ t fs b, x ∈ o ∧ g x = some (t, fs) ∧ v = .tup [.str t, .ref b] ∧ G3 b = some (.lst (il (fs.map κ)))) ((F2.mapL f3).imp fun x p ⟨x', t, fs, b, h1, h2, h3, h4, h5, h6, h7⟩ => ⟨x', h1, h4, t, fs, b, h2, h3, h5, h7⟩)
    obtain ⟨mp, emp, fmp⟩ := hmp
    refine ⟨.ref a3, M.quo g o κ, κ r, o.length, (fun i => ∃ x, x ∈ o ∧ κ x = i), rfl, ⟨.inr ⟨a3, aputs mp, rfl, by rw [e3, emp, dputs_kd key_nat], fun i t fs e => ?_⟩, M.quo_closed oc hk, ⟨r, ro, rfl⟩, fun i ⟨x, hx, e⟩ => e ▸ hlt x hx, by omega, fun a => ?_⟩, fun a b ha hb => M.quo_sep oc hk ha hb, fun rows G4 s4 hL => fin.of (k rows G4 (((s1.trans s2).trans s3).trans s4) (M.quo_least oc hk ro hL))⟩
    · obtain ⟨x, fs', hx, ex, eg, ef⟩ := M.quo_of e
      obtain ⟨j, hj⟩ := List.getElem?_of_mem hx
      obtain ⟨p, hp, e1, _⟩ := fmp.get hj
      have hm : (i, p.2) ∈ mp := by
        rw [← ex, ← e1]
        exact List.mem_of_getElem? hp
      obtain ⟨v', h1, h2⟩ := aget_puts hm
      obtain ⟨j2, hj2⟩ := List.getElem?_of_mem h2
      obtain ⟨x2, hx2, e2, t2, fs2, b, h3, h4, h5, h6⟩ := fmp.gev hj2
      have hb : M.Bis g x2 g x := (hk x2 x h3 hx).mp (by rw [ex]; exact e2.symm)
      have q1 := M.quo_at oc hk h3 h4
      have q2 := M.quo_at oc hk hx eg
      rw [(hk x2 x h3 hx).mpr hb, q2] at q1
      have q3 := Prod.mk.inj (Option.some.inj q1)
      refine ⟨.ref b, ?_, .inr ⟨b, rfl, ?_⟩⟩
      · rw [h1]
        have h5 : v' = .tup [.str t2, .ref b] := h5
        rw [h5, q3.1]
      · rw [h6, ← q3.2, ef]
    · cases e : M.quo g o κ a with
      | none => unfold M.fld; rw [e]; exact Nat.zero_le _
      | some p =>
        obtain ⟨t, fs⟩ := p
        obtain ⟨x, fs', hx, ex, eg, ef⟩ := M.quo_of e
        have := hf x
        rw [M.fld_of eg] at this
        rw [M.fld_of e, ef, List.length_map]
        exact this
/-- the tags that a drawn sheet has -/
def allTags : List Str := ["cons", "end", "one", "two", "a", "b", "leaf", "pair", "voids", "x", "zzzzzzz", "tag", "void"]
abbrev TagOk (t : Str) : Prop := t ∈ allTags
/-- a sheet whose fields are rows of it, not too large -/
structure Good (rows : Sheet) : Prop where
  pos : 0 < rows.length
  le : rows.length ≤ 60
  ok : ∀ (i : Nat) t fs, rows[i]? = some (t, fs) → (∀ f ∈ fs, f < rows.length) ∧ fs.length ≤ 8
  tag : ∀ (i : Nat) t fs, rows[i]? = some (t, fs) → TagOk t
theorem Good.cl {rows : Sheet} (h : Good rows) : M.Closed (M.gr rows) (· < rows.length) := M.gr_closed fun i t fs e => (h.ok i t fs e).1
theorem Good.rw {rows : Sheet} (h : Good rows) {r : Nat} (hr : r < rows.length) (G : Gp) : Rw G (sheetD rows) (M.gr rows) r rows.length (· < rows.length) :=
  ⟨sheet_rows G rows, h.cl, hr, fun _ h => h, by have := h.le; omega, fun a => by
    cases e : M.gr rows a with
    | none => unfold M.fld; rw [e]; exact Nat.zero_le _
    | some p =>
      rw [M.fld_of (t := p.1) (fs := p.2) e]
      exact (h.ok a p.1 p.2 e).2⟩
theorem good_least {g : M.Gr Str} {S : Nat → Prop} {r N : Nat} {rows : Sheet} (c : M.Closed g S) (hr : S r) (hN : ∀ a, S a → a < N) (h60 : N ≤ 60) (ha : ∀ a, (M.fld g a).length ≤ 8) (ht : ∀ a t fs, S a → g a = some (t, fs) → TagOk t) (h : M.IsLeast g r rows) : Good rows :=
  ⟨h.pos, Nat.le_trans (h.len_le c hr hN) h60, fun i t fs e => ⟨h.ok i t fs e, by
    obtain ⟨a, fs', _, ea, el⟩ := h.row c hr e
    have := ha a
    rw [M.fld_of ea] at this
    omega⟩, fun i t fs e => by
    obtain ⟨a, fs', sa, ea, el⟩ := h.row c hr e
    exact ht a t fs' sa ea⟩
theorem Good.least {rows rows' : Sheet} (h : Good rows) {r : Nat} (hr : r < rows.length) (hl : M.IsLeast (M.gr rows) r rows') : Good rows' := good_least h.cl hr (fun _ h => h) h.le (fun a => (h.rw hr (fun _ => none)).arity a) (fun a t fs _ e => h.tag a t fs e) hl
def Sleastsheet : SpD := fun ds G q => ∃ rows, ds = [sheetD rows] ∧ Good rows ∧ ∀ rows' G', Sx no G G' → M.IsLeast (M.gr rows) 0 rows' → q (sheetD rows') G'
theorem rdleastsheet (ds : List D) (G : Gp) (q : QD) (h : Sleastsheet ds G q) : tleastsheet Sreduced { nx := fun _ G' => fin (q .non) G', rt := fun d G' => fin (q d) G' } (startD Nleastsheet ds) G := by
  obtain ⟨rows, rfl, hg, k⟩ := h
  unfold tleastsheet
  repeat infer_instance
  exact ⟨sheetD rows, M.gr rows, 0, rows.length, (· < rows.length), rfl, hg.rw hg.pos G, fun rows' G' s hL => fin.of (k rows' G' s hL)⟩
end
end DL.K81
/-! M7: first paths, breadth first. -/
namespace DL.M
/-- along a row's fields: what is new is put behind -/
def bgo (p : List Nat) : Nat → List Nat → List (Nat × List Nat) → List (Nat × List Nat)
  | _, [], fd => fd
  | k, t :: ts, fd => bgo p (k + 1) ts (if t ∈ fd.map (·.1) then fd else fd ++ [(t, p ++ [k])])
def bst (f : Nat → List Nat) (fd : List (Nat × List Nat)) (at_ : Nat) : List (Nat × List Nat) := match fd[at_]? with
  | some (r, p) => bgo p 0 (f r) fd
  | none => fd
def bfs (f : Nat → List Nat) : Nat → List (Nat × List Nat)
  | 0 => [(0, [])]
  | n + 1 => bst f (bfs f n) n
/-- all is visited -/
def Fp (f : Nat → List Nat) (fd : List (Nat × List Nat)) : Prop := bfs f fd.length = fd
section
variable {f : Nat → List Nat} {fd fd' : List (Nat × List Nat)}
theorem Fp.more (h : Fp f fd) (k : Nat) : bfs f (fd.length + k) = fd := by
  induction k with
  | zero => exact h
  | succ k ih =>
    show bst f (bfs f (fd.length + k)) (fd.length + k) = fd
    rw [ih]
    unfold bst
    rw [List.getElem?_eq_none (by omega)]
theorem Fp.uniq (h : Fp f fd) (h' : Fp f fd') : fd = fd' := by
  rcases Nat.le_total fd.length fd'.length with l | l
  · have := h.more (fd'.length - fd.length)
    rw [show fd.length + (fd'.length - fd.length) = fd'.length from by omega] at this
    exact this.symm.trans h'
  · have := h'.more (fd.length - fd'.length)
    rw [show fd'.length + (fd.length - fd'.length) = fd.length from by omega] at this
    exact h.symm.trans this
/-- rows along a path -/
def walk (f : Nat → List Nat) : Nat → List Nat → Option Nat
  | r, [] => some r
  | r, k :: ks => (f r)[k]?.bind fun t => walk f t ks
theorem walk_app {r m : Nat} {p q : List Nat} (h : walk f r p = some m) : walk f r (p ++ q) = walk f m q := by
  induction p generalizing r with
  | nil =>
    cases h
    rfl
  | cons k p ih =>
    have h : ((f r)[k]?.bind fun t => walk f t p) = some m := h
    show ((f r)[k]?.bind fun t => walk f t (p ++ q)) = _
    cases e : (f r)[k]? with
    | none => rw [e] at h; cases h
    | some t =>
      rw [e] at h
      exact ih h
/-- what holds of found rows -/
structure BOk (f : Nat → List Nat) (N : Nat) (fd : List (Nat × List Nat)) : Prop where
  nd : (fd.map (·.1)).Nodup
  lt : ∀ x ∈ fd, x.1 < N
  lead : ∀ x ∈ fd, walk f 0 x.2 = some x.1
  short : ∀ x ∈ fd, x.2.length < fd.length
theorem BOk.start {N : Nat} (h : 0 < N) : BOk f N [(0, [])] := ⟨by simp, by simpa using h, by simp [walk], by simp⟩
theorem BOk.put {N : Nat} (h : BOk f N fd) {r k t : Nat} {p : List Nat} (hp : (r, p) ∈ fd) (ht : (f r)[k]? = some t) (hN : t < N) (hn : t ∉ fd.map (·.1)) : BOk f N (fd ++ [(t, p ++ [k])]) := by
  refine ⟨?_, fun x hx => ?_, fun x hx => ?_, fun x hx => ?_⟩
  · rw [List.map_append, List.nodup_append]
    refine ⟨h.nd, by simp, fun a ha b hb => ?_⟩
    have : b = t := by simpa using hb
    subst this
    rintro rfl
    exact hn ha
  · rcases List.mem_append.mp hx with hx | hx
    · exact h.lt x hx
    · have : x = (t, p ++ [k]) := by simpa using hx
      rw [this]
      exact hN
  · rcases List.mem_append.mp hx with hx | hx
    · exact h.lead x hx
    · have : x = (t, p ++ [k]) := by simpa using hx
      rw [this]
      show walk f 0 (p ++ [k]) = some t
      have hl : walk f 0 p = some r := h.lead _ hp
      rw [walk_app hl]
      show ((f r)[k]?.bind fun t => walk f t []) = _
      rw [ht]
      rfl
  · rw [List.length_append, List.length_singleton]
    rcases List.mem_append.mp hx with hx | hx
    · have := h.short x hx
      omega
    · have : x = (t, p ++ [k]) := by simpa using hx
      rw [this]
      have := h.short _ hp
      show (p ++ [k]).length < _
      rw [List.length_append, List.length_singleton]
      have : p.length < fd.length := this
      omega
theorem BOk.len {N : Nat} (h : BOk f N fd) : fd.length ≤ N := by
  have := nodup_le h.nd (N := N) fun a ha => by
    obtain ⟨x, hx, rfl⟩ := List.mem_map.mp ha
    exact h.lt x hx
  simpa using this
/-- along the fields, from a state to the end -/
theorem bgo_keep {p : List Nat} : ∀ (fs : List Nat) (k : Nat) (fd : List (Nat × List Nat)), ∃ more, bgo p k fs fd = fd ++ more ∧ (∀ x ∈ more, x.1 ∈ fs) ∧ ∀ t ∈ fs, t ∈ (bgo p k fs fd).map (·.1)
  | [], k, fd => ⟨[], by simp [bgo], by simp, by simp⟩
  | t :: ts, k, fd => by
    unfold bgo
    by_cases h : t ∈ fd.map (·.1)
    · rw [if_pos h]
      obtain ⟨more, e1, e2, e3⟩ := bgo_keep (p := p) ts (k + 1) fd
      refine ⟨more, e1, fun x hx => List.mem_cons_of_mem _ (e2 x hx), fun y hy => ?_⟩
      rcases List.mem_cons.mp hy with rfl | hy
      · rw [e1, List.map_append]
        exact List.mem_append_left _ h
      · exact e3 y hy
    · rw [if_neg h]
      obtain ⟨more, e1, e2, e3⟩ := bgo_keep (p := p) ts (k + 1) (fd ++ [(t, p ++ [k])])
      refine ⟨[(t, p ++ [k])] ++ more, by rw [e1, List.append_assoc], fun x hx => ?_, fun y hy => ?_⟩
      · rcases List.mem_append.mp hx with hx | hx
        · have : x = (t, p ++ [k]) := by simpa using hx
          rw [this]
          exact List.mem_cons_self
        · exact List.mem_cons_of_mem _ (e2 x hx)
      · rcases List.mem_cons.mp hy with rfl | hy
        · rw [e1, List.map_append, List.map_append]
          exact List.mem_append_left _ (List.mem_append_right _ (by simp))
        · exact e3 y hy
theorem bfs_keep (n m : Nat) : ∃ more, bfs f (n + m) = bfs f n ++ more := by
  induction m with
  | zero => exact ⟨[], by simp⟩
  | succ m ih =>
    obtain ⟨more, e⟩ := ih
    show ∃ more, bst f (bfs f (n + m)) (n + m) = _
    unfold bst
    split
    · rename_i r p _
      obtain ⟨more2, e2, _⟩ := bgo_keep (p := p) (f r) 0 (bfs f (n + m))
      exact ⟨more ++ more2, by rw [e2, e, List.append_assoc]⟩
    · exact ⟨more, e⟩
/-- all that can be reached is found -/
theorem Fp.closed (h : Fp f fd) {x : Nat × List Nat} (hx : x ∈ fd) : ∀ t ∈ f x.1, t ∈ fd.map (·.1) := by
  obtain ⟨i, hi⟩ := List.getElem?_of_mem hx
  have hlt := (List.getElem?_eq_some_iff.mp hi).1
  obtain ⟨m1, e1⟩ := bfs_keep (f := f) (i + 1) (fd.length - (i + 1))
  rw [show i + 1 + (fd.length - (i + 1)) = fd.length from by omega, h] at e1
  obtain ⟨m0, e0⟩ := bfs_keep (f := f) i (fd.length - i)
  rw [show i + (fd.length - i) = fd.length from by omega, h] at e0
  have e2 : bfs f (i + 1) = bst f (bfs f i) i := rfl
  have key : (bfs f i)[i]? = some x ∨ (bfs f i).length ≤ i := by
    by_cases hl : i < (bfs f i).length
    · rw [e0, List.getElem?_append_left hl] at hi
      exact .inl hi
    · exact .inr (by omega)
  rcases key with key | key
  · unfold bst at e2
    rw [key] at e2
    obtain ⟨_, _, _, e3⟩ := bgo_keep (p := x.2) (f x.1) 0 (bfs f i)
    intro t ht
    rw [e1, List.map_append]
    exact List.mem_append_left _ (by rw [e2]; exact e3 t ht)
  · have h2 : Fp f (bfs f i) ∨ True := .inr trivial
    have e3 : bfs f (i + 1) = bfs f i := by
      rw [e2]
      unfold bst
      rw [List.getElem?_eq_none key]
    have all : ∀ m, bfs f (i + m) = bfs f i := by
      intro m
      induction m with
      | zero => rfl
      | succ m ih =>
        show bst f (bfs f (i + m)) (i + m) = _
        rw [ih]
        unfold bst
        rw [List.getElem?_eq_none (by omega)]
    have := all (fd.length - i)
    rw [show i + (fd.length - i) = fd.length from by omega, h] at this
    rw [← this] at key
    omega
theorem Fp.zero (h : Fp f fd) : fd[0]? = some (0, []) := by
  obtain ⟨m, e⟩ := bfs_keep (f := f) 0 fd.length
  rw [Nat.zero_add, h] at e
  rw [e]
  rfl
end
theorem Fp.full {τ : Type} {g : Gr τ} {r : Nat} {rows : List (τ × List Nat)} {fd : List (Nat × List Nat)} (hl : IsLeast g r rows) (h : Fp (fld (gr rows)) fd) {i : Nat} (hi : i < rows.length) : i ∈ fd.map (·.1) := by
  have h0 : (0 : Nat) ∈ fd.map (·.1) := List.mem_map.mpr ⟨_, List.mem_of_getElem? h.zero, rfl⟩
  have := (Come.all (S := fun i => i ∈ fd.map (·.1)) h0 (fun a ha x hx => by
    obtain ⟨y, hy, rfl⟩ := List.mem_map.mp ha
    exact h.closed hy x hx) hl.ord).2
  exact this i (List.mem_range.mpr hi)
end DL.M
/-! X5: paths as data. -/
namespace DL
open PySem PySem.Spec PyProof.Rows L2
def pathD (p : List Nat) : D := .tup (il p)
abbrev fdD (x : Nat × List Nat) : D := .tup [nD x.1, pathD x.2]
def pathsD (fd : List (Nat × List Nat)) : D := .tup (fd.map fdD)
theorem enum_gev {fs : List Nat} {i : Nat} {d : D} (h : (enumD (il fs))[i]? = some d) : ∃ x, fs[i]? = some x ∧ d = .tup [nD i, nD x] := by
  rw [enumD_get] at h
  obtain ⟨e, he, rfl⟩ := Option.map_eq_some_iff.mp h
  obtain ⟨x, hx, rfl⟩ := il_gev he
  exact ⟨x, hx, rfl⟩
theorem drop_get {α : Type} {l : List α} {i : Nat} {x : α} (h : l[i]? = some x) : l.drop i = x :: l.drop (i + 1) := by
  obtain ⟨hi, e⟩ := List.getElem?_eq_some_iff.mp h
  rw [List.drop_eq_getElem_cons hi, e]
theorem aget_of {κ α : Type} [DecidableEq κ] {m : List (κ × α)} (nd : (m.map (·.1)).Nodup) {x : κ × α} (h : x ∈ m) : aget m x.1 = some x.2 := by
  induction m with
  | nil => cases h
  | cons y m ih =>
    unfold aget at ih ⊢
    rw [List.map_cons, List.nodup_cons] at nd
    rw [List.find?_cons]
    rcases List.mem_cons.mp h with rfl | h
    · rw [decide_eq_true rfl]
      rfl
    · by_cases e : y.1 = x.1
      · exact absurd (List.mem_map.mpr ⟨x, h, e.symm⟩) nd.1
      · rw [decide_eq_false e]
        exact ih nd.2 h
end DL
/-! X6: plain data (numbers, texts, tuples of these): ==, in, index. -/
namespace DL
open PySem PySem.Spec PyProof.Rows L2
mutual
def plB : D → Bool
  | .int _ => true
  | .str x => PyData.strOk x
  | .tup ds => plBs ds
  | .non => false
  | .bl _ => false
  | .ref _ => false
def plBs : List D → Bool
  | [] => true
  | d :: ds => plB d && plBs ds
end
mutual
def dep : D → Nat
  | .tup ds => deps ds + 1
  | .int _ => 0
  | .str _ => 0
  | .non => 0
  | .bl _ => 0
  | .ref _ => 0
def deps : List D → Nat
  | [] => 0
  | d :: ds => max (dep d) (deps ds)
end
theorem plBs_all : ∀ {ds : List D}, plBs ds = true ↔ ∀ d ∈ ds, plB d = true
  | [] => by simp [plBs]
  | d :: ds => by
    rw [plBs, Bool.and_eq_true, plBs_all (ds := ds)]
    simp
theorem deps_le : ∀ {ds : List D} {n : Nat}, (∀ d ∈ ds, dep d ≤ n) → deps ds ≤ n
  | [], n, _ => Nat.zero_le _
  | d :: ds, n, h => by
    rw [deps]
    have h1 := h d List.mem_cons_self
    have h2 := deps_le (ds := ds) fun d hd => h d (List.mem_cons_of_mem _ hd)
    omega
mutual
theorem pl_dat : ∀ {d : D}, plB d = true → ∃ p, dat d = some p ∧ p.canLay0 = true ∧ p.depth = dep d
  | .int i, _ => ⟨.int i, rfl, rfl, rfl⟩
  | .str x, h => ⟨.str x, rfl, by rw [plB] at h; simpa [PyData.canLay0] using h, by simp [PyData.depth, dep]⟩
  | .tup ds, h => by
    rw [plB] at h
    obtain ⟨ps, e, h1, h2⟩ := pls_dats h
    refine ⟨.tuple ps, ?_, by simpa [PyData.canLay0] using h1, by simp [PyData.depth, dep, h2]⟩
    show (dats ds).map PyData.tuple = _
    rw [e]
    rfl
theorem pls_dats : ∀ {ds : List D}, plBs ds = true → ∃ ps, dats ds = some ps ∧ PyData.canLayAll0 ps = true ∧ PyData.depthAll ps = deps ds
  | [], _ => ⟨[], rfl, by simp [PyData.canLayAll0], by simp [PyData.depthAll, deps]⟩
  | d :: ds, h => by
    rw [plBs, Bool.and_eq_true] at h
    obtain ⟨p, e1, h1, h2⟩ := pl_dat h.1
    obtain ⟨ps, e2, h3, h4⟩ := pls_dats h.2
    refine ⟨p :: ps, ?_, by simp [PyData.canLayAll0, h1, h3], by simp [PyData.depthAll, deps, h2, h4]⟩
    show (match dat d, dats ds with | some p, some ps => some (p :: ps) | _, _ => none) = _
    rw [e1, e2]
end
theorem dats_cons {d : D} {ds : List D} {ps : List PyData} (h : dats (d :: ds) = some ps) : ∃ p qs, dat d = some p ∧ dats ds = some qs ∧ ps = p :: qs := by
  have h : (match dat d, dats ds with | some p, some ps => some (p :: ps) | _, _ => none) = some ps := h
  cases e1 : dat d with
  | none => rw [e1] at h; cases h
  | some p =>
    cases e2 : dats ds with
    | none => rw [e1, e2] at h; cases h
    | some qs =>
      rw [e1, e2] at h
      cases h
      exact ⟨p, qs, rfl, rfl, rfl⟩
mutual
theorem pl_eqv : ∀ {d e : D} {p r : PyData}, plB d = true → plB e = true → dat d = some p → dat e = some r → (PyData.eqv p r = true ↔ d = e)
  | .int i, .int j, _, _, _, _, h1, h2 => by cases h1; cases h2; simp [PyData.eqv]
  | .int i, .str j, _, _, _, _, h1, h2 => by cases h1; cases h2; simp [PyData.eqv]
  | .int i, .tup ds, _, r, _, _, h1, h2 => by
    cases h1
    obtain ⟨ps, _, rfl⟩ := Option.map_eq_some_iff.mp (show (dats ds).map PyData.tuple = some r from h2)
    simp [PyData.eqv]
  | .str i, .int j, _, _, _, _, h1, h2 => by cases h1; cases h2; simp [PyData.eqv]
  | .str i, .str j, _, _, _, _, h1, h2 => by cases h1; cases h2; simp [PyData.eqv]
  | .str i, .tup ds, _, r, _, _, h1, h2 => by
    cases h1
    obtain ⟨ps, _, rfl⟩ := Option.map_eq_some_iff.mp (show (dats ds).map PyData.tuple = some r from h2)
    simp [PyData.eqv]
  | .tup ds, .int j, p, _, _, _, h1, h2 => by
    cases h2
    obtain ⟨ps, _, rfl⟩ := Option.map_eq_some_iff.mp (show (dats ds).map PyData.tuple = some p from h1)
    simp [PyData.eqv]
  | .tup ds, .str j, p, _, _, _, h1, h2 => by
    cases h2
    obtain ⟨ps, _, rfl⟩ := Option.map_eq_some_iff.mp (show (dats ds).map PyData.tuple = some p from h1)
    simp [PyData.eqv]
  | .tup ds, .tup es, p, r, g1, g2, h1, h2 => by
    obtain ⟨ps, e1, rfl⟩ := Option.map_eq_some_iff.mp (show (dats ds).map PyData.tuple = some p from h1)
    obtain ⟨rs, e2, rfl⟩ := Option.map_eq_some_iff.mp (show (dats es).map PyData.tuple = some r from h2)
    rw [plB] at g1 g2
    rw [PyData.eqv, pls_eqv g1 g2 e1 e2]
    simp
  | .non, _, _, _, g, _, _, _ => by cases g
  | .bl _, _, _, _, g, _, _, _ => by cases g
  | .ref _, _, _, _, g, _, _, _ => by cases g
  | .int _, .non, _, _, _, g, _, _ => by cases g
  | .int _, .bl _, _, _, _, g, _, _ => by cases g
  | .int _, .ref _, _, _, _, g, _, _ => by cases g
  | .str _, .non, _, _, _, g, _, _ => by cases g
  | .str _, .bl _, _, _, _, g, _, _ => by cases g
  | .str _, .ref _, _, _, _, g, _, _ => by cases g
  | .tup _, .non, _, _, _, g, _, _ => by cases g
  | .tup _, .bl _, _, _, _, g, _, _ => by cases g
  | .tup _, .ref _, _, _, _, g, _, _ => by cases g
theorem pls_eqv : ∀ {ds es : List D} {ps rs : List PyData}, plBs ds = true → plBs es = true → dats ds = some ps → dats es = some rs → (PyData.eqvAll ps rs = true ↔ ds = es)
  | [], [], _, _, _, _, h1, h2 => by cases h1; cases h2; simp [PyData.eqvAll]
  | [], e :: es, _, rs, _, _, h1, h2 => by
    cases h1
    obtain ⟨p, qs, _, _, rfl⟩ := dats_cons h2
    simp [PyData.eqvAll]
  | d :: ds, [], ps, _, _, _, h1, h2 => by
    cases h2
    obtain ⟨p, qs, _, _, rfl⟩ := dats_cons h1
    simp [PyData.eqvAll]
  | d :: ds, e :: es, ps, rs, g1, g2, h1, h2 => by
    obtain ⟨p, qs, e1, e2, rfl⟩ := dats_cons h1
    obtain ⟨r, ss, e3, e4, rfl⟩ := dats_cons h2
    rw [plBs, Bool.and_eq_true] at g1 g2
    rw [PyData.eqvAll, Bool.and_eq_true, pl_eqv g1.1 g2.1 e1 e3, pls_eqv g1.2 g2.2 e2 e4]
    simp
end
theorem pl_shaped {d : D} {p : PyData} (h : plB d = true) (hd : dep d ≤ 60) (e : dat d = some p) : SeqAt.shaped p = true := by
  obtain ⟨p', e', h1, h2⟩ := pl_dat h
  rw [e] at e'
  cases e'
  show (p.canLay0 && decide (p.depth ≤ 64)) = true
  rw [h1, decide_eq_true (by omega)]
  rfl
theorem pls_shaped {ds : List D} {ps : List PyData} (h : plBs ds = true) (hd : deps ds ≤ 60) (e : dats ds = some ps) : SeqAt.shaped (.list ps) = true := by
  obtain ⟨p', e', h1, h2⟩ := pls_dats h
  rw [e] at e'
  cases e'
  show (PyData.canLay0 (.list ps) && decide (PyData.depth (.list ps) ≤ 64)) = true
  rw [show PyData.canLay0 (.list ps) = true from by simpa [PyData.canLay0] using h1, decide_eq_true (by simp only [PyData.depth]; omega)]
  rfl
section
variable {G : Gp} {q : QD} {n : Bool}
/-- two tuples -/
theorem e_eqT {ds es : List D} (h1 : plB (.tup ds) = true) (h2 : plB (.tup es) = true) (d1 : dep (.tup ds) ≤ 60) (d2 : dep (.tup es) ≤ 60) (k : ∀ b, (b = true ↔ D.tup ds = D.tup es) → q (.bl (xor n b)) G) : rEqv n (.tup ds) (.tup es) G q := by
  obtain ⟨p, e1, _, _⟩ := pl_dat h1
  obtain ⟨r, e2, _, _⟩ := pl_dat h2
  have e0 : atomEq (.tup ds) (.tup es) = none := rfl
  have g1 : datG G (.tup ds) = some p := e1
  have g2 : datG G (.tup es) = some r := e2
  unfold rEqv
  rw [e0, g1, g2]
  exact ⟨pl_shaped h1 d1 e1, pl_shaped h2 d2 e2, k _ (pl_eqv h1 h2 e1 e2)⟩
theorem pls_mem {ds : List D} {ps : List PyData} {e : D} {p : PyData} (h : plBs ds = true) (he : plB e = true) (h1 : dats ds = some ps) (h2 : dat e = some p) : (ps.any fun z => PyData.eqv z p) = true ↔ e ∈ ds := by
  induction ds generalizing ps with
  | nil => cases h1; simp
  | cons d ds ih =>
    obtain ⟨r, qs, e1, e2, rfl⟩ := dats_cons h1
    rw [plBs, Bool.and_eq_true] at h
    rw [List.any_cons, Bool.or_eq_true, pl_eqv h.1 he e1 h2, ih h.2 e2, List.mem_cons]
    constructor
    · rintro (h | h)
      · exact .inl h.symm
      · exact .inr h
    · rintro (h | h)
      · exact .inl h.symm
      · exact .inr h
theorem e_inL {a : Addr} {ds : List D} {e : D} (h : G a = some (.lst ds)) (h1 : plBs ds = true) (d1 : deps ds ≤ 60) (h2 : plB e = true) (d2 : dep e ≤ 60) (k : ∀ b, (b = true ↔ e ∈ ds) → q (.bl (xor n b)) G) : rIn n e (.ref a) G q := by
  obtain ⟨ps, e1, _, _⟩ := pls_dats h1
  obtain ⟨p, e2, _, _⟩ := pl_dat h2
  show (match G a with
    | some (.dic kvs) => fits kvs e = true ∧ q (.bl (xor n (dget kvs e).isSome)) G
    | some (.rdc kvs) => fits kvs e = true ∧ q (.bl (xor n (dget kvs e).isSome)) G
    | some (.lst ds) => (match dat e, dats ds with
      | some p, some ps => SeqAt.shaped p = true ∧ SeqAt.shaped (.list ps) = true ∧ q (.bl (xor n (ps.any fun z => PyData.eqv z p))) G
      | _, _ => False)
    | _ => False)
  rw [h]
  dsimp only
  rw [e1, e2]
  exact ⟨pl_shaped h2 d2 e2, pls_shaped h1 d1 e1, k _ (pls_mem h1 h2 e1 e2)⟩
theorem pls_find {ds : List D} {ps : List PyData} {e : D} {p : PyData} (h : plBs ds = true) (he : plB e = true) (h1 : dats ds = some ps) (h2 : dat e = some p) : ∀ {i : Nat}, ds[i]? = some e → (∀ j, j < i → ds[j]? ≠ some e) → ps.findIdx (fun z => PyData.eqv z p) = i := by
  induction ds generalizing ps with
  | nil => intro i hi; simp at hi
  | cons d ds ih =>
    obtain ⟨r, qs, e1, e2, rfl⟩ := dats_cons h1
    rw [plBs, Bool.and_eq_true] at h
    intro i hi hj
    rw [List.findIdx_cons]
    cases i with
    | zero =>
      have : d = e := by simpa using hi
      rw [(pl_eqv h.1 he e1 h2).mpr this]
      rfl
    | succ i =>
      have hne : ¬ d = e := fun z => hj 0 (Nat.succ_pos _) (by simpa using z)
      have : PyData.eqv r p = false := by
        cases hz : PyData.eqv r p with
        | false => rfl
        | true => exact absurd ((pl_eqv h.1 he e1 h2).mp hz) hne
      rw [this]
      show _ + 1 = _
      rw [ih h.2 e2 (i := i) (by simpa using hi) fun j hlt => by
        have := hj (j + 1) (by omega)
        simpa using this]
theorem e_indexL {a : Addr} {ds : List D} {e : D} {i : Nat} (h : G a = some (.lst ds)) (h1 : plBs ds = true) (d1 : deps ds ≤ 60) (h2 : plB e = true) (d2 : dep e ≤ 60) (hi : ds[i]? = some e) (hj : ∀ j, j < i → ds[j]? ≠ some e) (k : q (nD i) G) : rIndexL (.ref a) [e] G q := by
  obtain ⟨ps, e1, _, _⟩ := pls_dats h1
  obtain ⟨p, e2, _, _⟩ := pl_dat h2
  have hf := pls_find h1 h2 e1 e2 hi hj
  have hl := dats_length e1
  have hlt := (List.getElem?_eq_some_iff.mp hi).1
  show (match G a with
    | some (.lst ds) => (match dat e, dats ds with
      | some p, some ps => SeqAt.shaped p = true ∧ SeqAt.shaped (.list ps) = true ∧ ps.findIdx (fun z => PyData.eqv z p) < ps.length ∧ q (.int (ps.findIdx fun z => PyData.eqv z p : Nat)) G
      | _, _ => False)
    | _ => False)
  rw [h]
  dsimp only
  rw [e1, e2]
  refine ⟨pl_shaped h2 d2 e2, pls_shaped h1 d1 e1, ?_, ?_⟩
  · rw [hf]; omega
  · rw [hf]; exact k
end
theorem il_pl (ns : List Nat) : plBs (il ns) = true := plBs_all.mpr fun d hd => by
  obtain ⟨n, _, rfl⟩ := List.mem_map.mp hd
  rfl
theorem il_dep (ns : List Nat) : deps (il ns) ≤ 0 := deps_le fun d hd => by
  obtain ⟨n, _, rfl⟩ := List.mem_map.mp hd
  exact Nat.le_refl _
theorem path_pl (p : List Nat) : plB (pathD p) = true := by
  unfold pathD
  rw [plB]
  exact il_pl p
theorem path_dep (p : List Nat) : dep (pathD p) ≤ 1 := by
  unfold pathD
  rw [dep]
  have := il_dep p
  omega
theorem nD_inj {a b : Nat} (h : nD a = nD b) : a = b := Int.ofNat.inj (D.int.inj h)
theorem il_inj : ∀ {a b : List Nat}, il a = il b → a = b
  | [], [], _ => rfl
  | [], _ :: _, h => by cases h
  | _ :: _, [], h => by cases h
  | x :: a, y :: b, h => by
    have h : nD x :: il a = nD y :: il b := h
    injection h with h1 h2
    rw [nD_inj h1, il_inj h2]
end DL
/-! P11: rooted, first_paths. -/
namespace DL.K81
open PySem PySem.Spec PyProof.Rows L2 DL
local macro_rules
  | `(tactic| infer_instance) => `(tactic| first
    | with_reducible refine x_seq ?_
    | with_reducible refine x_asgN ?_
    | with_reducible refine x_asg ?_
    | with_reducible refine x_drop ?_
    | with_reducible refine x_ret ?_
    | with_reducible refine x_if ?_
    | with_reducible refine x_par ?_
    | with_reducible refine x_par3 ?_
    | with_reducible refine x_next ?_
    | with_reducible refine x_break ?_
    | with_reducible refine x_cont ?_
    | ((with_reducible refine x_var ?_); refine look rfl ?_)
    | with_reducible refine x_c ?_
    | with_reducible refine x_op ?_
    | with_reducible refine x_un ?_
    | with_reducible refine x_nil ?_
    | with_reducible refine x_cons ?_
    | with_reducible refine x_star ?_
    | with_reducible refine x_cb ?_
    | with_reducible refine x_bm ?_
    | with_reducible refine x_call ?_
    | with_reducible refine x_callK ?_
    | with_reducible refine x_tup ?_
    | with_reducible refine x_lst ?_
    | with_reducible refine x_newD ?_
    | with_reducible refine x_test ?_
    | with_reducible refine x_not ?_
    | with_reducible refine x_and ?_
    | with_reducible refine x_or ?_
    | with_reducible refine x_ifE ?_
    | with_reducible refine x_notV ?_
    | with_reducible refine x_yes ?_
    | with_reducible refine x_gname ?_
    | with_reducible refine x_gnil ?_
    | with_reducible refine x_gcons ?_
    | with_reducible refine x_gtup rfl ?_
    | with_reducible refine x_gsub ?_
    | with_reducible refine x_it ?_
    | with_reducible refine x_range1 ?_
    | with_reducible refine x_enum ?_
    | with_reducible refine x_lc ?_
    | with_reducible refine x_dc ?_
    | with_reducible refine x_for ?_
    | with_reducible refine e_rev ?_
    | with_reducible refine x_arg1 ?_
    | with_reducible refine x_arg2 ?_
    | with_reducible refine x_arg3 ?_
    | with_reducible refine x_isB ?_
    | with_reducible refine x_isI ?_
    | with_reducible refine x_items ?_
    | with_reducible refine x_values ?_
    | with_reducible refine x_keys ?_
    | with_reducible refine x_listV ?_
    | with_reducible refine x_sumV ?_
    | with_reducible refine x_listItems ?_
    | with_reducible refine x_sortItems ?_
    | with_reducible refine x_zipL ?_
    | with_reducible refine x_lenSetI ?_
    | with_reducible refine x_sortSet ?_
    | with_reducible refine x_isI' ?_
    | with_reducible refine x_dpN ?_
    | with_reducible refine x_dpC ?_
    | with_reducible refine x_slice ?_
    | with_reducible refine x_noPart ?_
    | with_reducible refine x_part ?_
    | with_reducible refine x_listR2 ?_
    | with_reducible refine x_range2 ?_
    | ((with_reducible refine x_augI ?_); refine augK rfl ?_))
section
theorem sheet_ix {rows : Sheet} {i : Nat} {t : Str} {fs : List Nat} {G : Gp} {q : QD} (h : rows[i]? = some (t, fs)) (k : q (.tup [.str t, .tup (il fs)]) G) : rIx (sheetD rows) (.int (i : Nat)) G q :=
  e_ixTup (atI_nat (by rw [List.getElem?_map, h]; rfl)) k
theorem Good.row {rows : Sheet} (h : Good rows) {i : Nat} (hi : i < rows.length) : ∃ t fs, rows[i]? = some (t, fs) ∧ (∀ f ∈ fs, f < rows.length) ∧ fs.length ≤ 8 :=
  ⟨rows[i].1, rows[i].2, List.getElem?_eq_getElem hi, h.ok i _ _ (List.getElem?_eq_getElem hi)⟩
def shift (p : Str × List Nat) : Str × List Nat := (p.1, p.2.map (· + 1))
def rootedM (rows : Sheet) (i : Nat) : Sheet := match rows[i]? with
  | some p => shift p :: rows.map shift
  | none => []
theorem rooted_len {rows : Sheet} {i : Nat} (hi : i < rows.length) : (rootedM rows i).length = rows.length + 1 := by
  unfold rootedM
  rw [List.getElem?_eq_getElem hi]
  simp
theorem rooted_succ {rows : Sheet} {i : Nat} (hi : i < rows.length) (j : Nat) : (rootedM rows i)[j + 1]? = (rows[j]?).map shift := by
  unfold rootedM
  rw [List.getElem?_eq_getElem hi]
  simp
theorem rooted_zero {rows : Sheet} {i : Nat} (hi : i < rows.length) : (rootedM rows i)[0]? = (rows[i]?).map shift := by
  unfold rootedM
  rw [List.getElem?_eq_getElem hi]
  simp
theorem rooted_good {rows : Sheet} (h : Good rows) (h59 : rows.length < 60) {i : Nat} (hi : i < rows.length) : Good (rootedM rows i) := by
  refine ⟨by rw [rooted_len hi]; omega, by rw [rooted_len hi]; omega, fun j t fs e => ?_, ?_⟩
  · rw [rooted_len hi]
    have key : ∀ k : Nat, (rows[k]?).map shift = some (t, fs) → (∀ f ∈ fs, f < rows.length + 1) ∧ fs.length ≤ 8 := by
      intro k ek
      obtain ⟨⟨t', gs⟩, e1, e2⟩ := Option.map_eq_some_iff.mp ek
      cases e2
      obtain ⟨h1, h2⟩ := h.ok k t' gs e1
      refine ⟨fun f hf => ?_, by rw [List.length_map]; exact h2⟩
      obtain ⟨x, hx, rfl⟩ := List.mem_map.mp hf
      have := h1 x hx
      omega
    cases j with
    | zero => exact key i (by rw [← rooted_zero hi]; exact e)
    | succ j => exact key j (by rw [← rooted_succ hi]; exact e)
  · intro j t fs e
    have key : ∀ k : Nat, (rows[k]?).map shift = some (t, fs) → TagOk t := by
      intro k ek
      obtain ⟨⟨t', gs⟩, e1, e2⟩ := Option.map_eq_some_iff.mp ek
      cases e2
      exact h.tag k t' gs e1
    cases j with
    | zero => exact key i (by rw [← rooted_zero hi]; exact e)
    | succ j => exact key j (by rw [← rooted_succ hi]; exact e)
theorem rooted_bis {rows : Sheet} (h : Good rows) {i : Nat} (hi : i < rows.length) : M.Bis (M.gr (rootedM rows i)) 0 (M.gr rows) i := by
  refine ⟨fun a b => b < rows.length ∧ (a = b + 1 ∨ (a = 0 ∧ b = i)), ⟨fun a b ⟨hb, hab⟩ => ?_⟩, hi, .inr ⟨rfl, rfl⟩⟩
  obtain ⟨t, fs, e, h1, _⟩ := h.row hb
  have ea : M.gr (rootedM rows i) a = some (t, fs.map (· + 1)) := by
    show (rootedM rows i)[a]? = _
    rcases hab with rfl | ⟨rfl, rfl⟩
    · rw [rooted_succ hi, e]; rfl
    · rw [rooted_zero hi, e]; rfl
  exact ⟨t, fs.map (· + 1), fs, ea, e, M.F2.mapL.mpr (M.F2.refl fun f hf => ⟨h1 f hf, .inl rfl⟩)⟩
def Srooted : SpD := fun ds G q => ∃ rows i, ds = [sheetD rows, nD i] ∧ Good rows ∧ i < rows.length ∧ ∀ G', Sx no G G' → q (sheetD (rootedM rows i)) G'
theorem rdrooted (ds : List D) (G : Gp) (q : QD) (h : Srooted ds G q) : trooted { nx := fun _ G' => fin (q .non) G', rt := fun d G' => fin (q d) G' } (startD Nrooted ds) G := by
  obtain ⟨rows, i, rfl, hg, hi, k⟩ := h
  have hle := hg.le
  unfold trooted
  repeat infer_instance
  refine i_tup ?_
  refine lc_fn Fr.no trivial rows rowD (fun p => rowD (shift p)) rfl (fun _ _ => trivial) (szl (by omega)) (fun j p G' hp s _ => ⟨_, rfl, fun h hh => ?_⟩) fun a G1 h1 s1 _ e1 => ?_
  · obtain ⟨_, hl8⟩ := hg.ok j p.1 p.2 hp
    repeat infer_instance
    refine i_tup ?_
    refine lc_fn Fr.no trivial p.2 nD (fun x => nD (x + 1)) rfl (fun _ _ => trivial) (szl (by omega)) (fun j x G4 hx s4 _ => ⟨_, rfl, fun h4 hh4 => ?_⟩) fun b G4 hb s4 _ e4 => ?_
    · repeat infer_instance
      refine e_addI ?_
      exact hh4 G4 Sx.refl trivial
    · repeat infer_instance
      refine e_tuple (.inl e4) ?_
      repeat infer_instance
      refine ⟨sz (by simp), ?_⟩
      have := hh G4 s4 trivial
      unfold rowD shift at this
      simpa [Function.comp_def] using this
  · repeat infer_instance
    obtain ⟨t, fs, e, _⟩ := hg.row hi
    refine e_ixL (.inl e1) (atI_nat (v := rowD (shift (t, fs))) (by rw [List.getElem?_map, e]; rfl)) ?_
    repeat infer_instance
    refine e_isSeq (.inl e1) ?_
    repeat infer_instance
    refine ⟨sz (by simp; omega), fin.of ?_⟩
    have := k G1 s1
    unfold sheetD rootedM at this
    rw [e] at this
    simpa [Function.comp_def] using this
def Sfirstpaths : SpD := fun ds G q => ∃ rows, ds = [sheetD rows] ∧ Good rows ∧ ∀ L fd G', Sx no G G' → M.IsLeast (M.gr rows) 0 L → M.Fp (M.fld (M.gr L)) fd → M.BOk (M.fld (M.gr L)) L.length fd → q (pathsD fd) G'
theorem rdfirstpaths (ds : List D) (G : Gp) (q : QD) (h : Sfirstpaths ds G q) : tfirstpaths Sleastsheet { nx := fun _ G' => fin (q .non) G', rt := fun d G' => fin (q d) G' } (startD Nfirstpaths ds) G := by
  obtain ⟨rows, rfl, hg, k⟩ := h
  unfold tfirstpaths
  repeat infer_instance
  refine ⟨rows, rfl, hg, fun L G1 s1 hL => ?_⟩
  have gL := hg.least hg.pos hL
  have hle := gL.le
  repeat infer_instance
  refine x_disp fun ap hap => ?_
  have s2 : Sx no G1 (gup G1 ap (.dic [])) := Sx.refl.gup hap
  have e2 : gup G1 ap (.dic []) ap = some (.dic []) := gup_same
  generalize gup G1 ap (.dic []) = G2 at s2 e2 ⊢
  repeat infer_instance
  refine ⟨sz (by simp), ?_⟩
  repeat infer_instance
  refine ⟨e2, fun p hp => ⟨.inl 0, by have : p = (D.int 0, D.tup []) := by simpa using hp
                                      rw [this]; rfl⟩, by decide, ?_⟩
  have s3 : Sx no G1 (gup G2 ap (.dic (dputs [(D.int 0, D.tup [])]))) := s2.gup hap
  have e3 : gup G2 ap (.dic (dputs [(D.int 0, D.tup [])])) ap = some (.dic (kd nD pathD [(0, [])])) := gup_same
  generalize gup G2 ap (.dic (dputs [(D.int 0, D.tup [])])) = G3 at s3 e3 ⊢
  repeat infer_instance
  refine ⟨sz (by simp), new_run fun ao G4 hao s4 e4 _ => ?_⟩
  repeat infer_instance
  refine ⟨sz (by simp), ?_⟩
  repeat infer_instance
  have nea : ap ≠ ao := by rintro rfl; rw [e3] at hao; cases hao
  have gap : G1 ap = none := hap
  have gao : G1 ao = none := s3.bk hao
  refine ⟨fun m σ H => ∃ n x5 x6 x7, σ = [some (sheetD rows), some (sheetD L), some (.ref ap), some (.ref ao), some (nD n), x5, x6, x7] ∧ Sx no G1 H ∧ H ap = some (.dic (kd nD pathD (M.bfs (M.fld (M.gr L)) n))) ∧ H ao = some (.lst (il ((M.bfs (M.fld (M.gr L)) n).map (·.1)))) ∧ M.BOk (M.fld (M.gr L)) L.length (M.bfs (M.fld (M.gr L)) n) ∧ n ≤ (M.bfs (M.fld (M.gr L)) n).length ∧ m = L.length - n,
    ⟨_, fin.of ⟨0, none, none, none, rfl, s3.trans s4, s4 ap _ id e3, e4, M.BOk.start gL.pos, Nat.zero_le _, rfl⟩⟩, fun m σ H ⟨n, x5, x6, x7, hσ, sH, eap, eao, bok, hn, hm⟩ => ?_⟩
  subst hσ
  have bl := bok.len
  repeat infer_instance
  refine e_len (.inl eao) ?_
  repeat infer_instance
  rw [List.length_map, List.length_map]
  refine e_ltN ?_
  repeat infer_instance
  by_cases hlt : n < (M.bfs (M.fld (M.gr L)) n).length
  · rw [decide_eq_true hlt, if_pos rfl]
    repeat infer_instance
    obtain ⟨⟨r, p⟩, hrp⟩ : ∃ x, (M.bfs (M.fld (M.gr L)) n)[n]? = some x := ⟨_, List.getElem?_eq_getElem hlt⟩
    have hmem := List.mem_of_getElem? hrp
    refine e_ixL (.inl eao) (atI_nat (v := nD r) (by rw [List.getElem?_map, List.getElem?_map, hrp]; rfl)) ?_
    repeat infer_instance
    have rlt : r < L.length := bok.lt _ hmem
    obtain ⟨t, fs, er, hfs, hf8⟩ := gL.row rlt
    have hfl : M.fld (M.gr L) r = fs := M.fld_of er
    refine sheet_ix er ?_
    repeat infer_instance
    refine row_fld ?_
    repeat infer_instance
    refine e_isSeqT ?_
    have hb : M.bfs (M.fld (M.gr L)) (n + 1) = M.bgo p 0 fs (M.bfs (M.fld (M.gr L)) n) := by
      show M.bst _ _ _ = _
      unfold M.bst
      rw [hrp]
      dsimp only
      rw [hfl]
    refine ⟨fun i σ K => ∃ fdi x6 x7, σ = [some (sheetD rows), some (sheetD L), some (.ref ap), some (.ref ao), some (nD n), some (nD r), x6, x7] ∧ Sx no G1 K ∧ K ap = some (.dic (kd nD pathD fdi)) ∧ K ao = some (.lst (il (fdi.map (·.1)))) ∧ M.BOk (M.fld (M.gr L)) L.length fdi ∧ (M.bfs (M.fld (M.gr L)) n).length ≤ fdi.length ∧ (r, p) ∈ fdi ∧ M.bgo p i (fs.drop i) fdi = M.bfs (M.fld (M.gr L)) (n + 1),
      fin.of ⟨M.bfs (M.fld (M.gr L)) n, _, _, rfl, sH, eap, eao, bok, Nat.le_refl _, hmem, by rw [hb]; rfl⟩, fun _ _ _ _ => trivial, fun i d σ K hd ⟨fdi, x6, x7, hσ, sK, kap, kao, bk, hl, hrm, hgo⟩ => ?_, fun σ K ⟨fdi, x6, x7, hσ, sK, kap, kao, bk, hl, hrm, hgo⟩ => ?_⟩
    · subst hσ
      obtain ⟨x, hx, rfl⟩ := enum_gev hd
      repeat infer_instance
      refine e_inD (.inl kap) (kd_fits key_nat _ x) ?_
      rw [kd_get key_nat, Option.isSome_map, aget_isSome]
      repeat infer_instance
      have hdr := drop_get hx
      rw [hdr] at hgo
      unfold M.bgo at hgo
      have bl2 := bk.len
      by_cases hm2 : x ∈ fdi.map (·.1)
      · rw [decide_eq_true hm2, if_neg (by decide)]
        repeat infer_instance
        rw [if_pos hm2] at hgo
        exact fin.of ⟨fdi, _, _, rfl, sK, kap, kao, bk, hl, hrm, hgo⟩
      · rw [decide_eq_false hm2, if_pos (by decide)]
        repeat infer_instance
        rw [if_neg hm2] at hgo
        refine e_ixD (.inl kap) (kd_fits key_nat _ r) (v := pathD p) ?_ ?_
        · rw [kd_get key_nat, aget_of bk.nd hrm]
          rfl
        repeat infer_instance
        refine e_isSeqT ?_
        repeat infer_instance
        have hsp : p.length < fdi.length := bk.short _ hrm
        refine ⟨sz (by simp; omega), ?_⟩
        repeat infer_instance
        refine e_setD kap (kd_fits key_nat _ x) (by rw [kd_len]; exact szl (by omega)) ?_
        rw [show D.tup (il p ++ [nD i]) = pathD (p ++ [i]) from by unfold pathD; simp, kd_put key_nat, aput_new (aget_none.mpr hm2)]
        have sK2 : Sx no G1 (gup K ap (.dic (kd nD pathD (fdi ++ [(x, p ++ [i])])))) := sK.gup gap
        have kap2 : gup K ap (.dic (kd nD pathD (fdi ++ [(x, p ++ [i])]))) ap = _ := gup_same
        have kao2 : gup K ap (.dic (kd nD pathD (fdi ++ [(x, p ++ [i])]))) ao = _ := (gup_ne (Ne.symm nea)).trans kao
        generalize gup K ap (.dic (kd nD pathD (fdi ++ [(x, p ++ [i])]))) = K2 at sK2 kap2 kao2 ⊢
        repeat infer_instance
        refine ⟨t_lst (.inl kao2), ?_⟩
        repeat infer_instance
        refine e_app kao2 (by rw [List.length_map, List.length_map]; exact szl (by omega)) ?_
        refine fin.of ⟨fdi ++ [(x, p ++ [i])], _, _, rfl, sK2.gup gao, (gup_ne nea).trans kap2, ?_, bk.put hrm (by rw [hfl]; exact hx) (hfs x (List.mem_of_getElem? hx)) hm2, by rw [List.length_append]; omega, List.mem_append_left _ hrm, hgo⟩
        rw [gup_same]
        simp
    · subst hσ
      rw [enumD_len, List.length_map, List.drop_length] at hgo
      have hgo : fdi = M.bfs (M.fld (M.gr L)) (n + 1) := hgo
      subst hgo
      repeat infer_instance
      have bl3 := bk.len
      exact ⟨L.length - (n + 1), by omega, fin.of ⟨n + 1, _, _, _, rfl, sK, kap, kao, bk, by omega, rfl⟩⟩
  · rw [decide_eq_false hlt, if_neg (by decide)]
    repeat infer_instance
    have hfin : M.Fp (M.fld (M.gr L)) (M.bfs (M.fld (M.gr L)) n) := by
      show M.bfs _ _ = _
      rw [show (M.bfs (M.fld (M.gr L)) n).length = n from by omega]
    generalize M.bfs (M.fld (M.gr L)) n = fd at eap eao bok hfin bl
    refine i_lst eao ?_
    refine lc_fn Fr.no trivial fd (fun x => nD x.1) fdD (by show List.map nD (List.map _ fd) = _; rw [List.map_map]; rfl) (fun G' s => .inl (s ao _ id eao)) (szl (by omega)) (fun j x G5 hx s5 _ => ⟨_, rfl, fun h hh => ?_⟩) fun b G5 hb s5 _ e5 => ?_
    · repeat infer_instance
      refine e_ixD (.inl (s5 ap _ id eap)) (kd_fits key_nat _ x.1) (v := pathD x.2) ?_ ?_
      · rw [kd_get key_nat, aget_of bok.nd (List.mem_of_getElem? hx)]
        rfl
      repeat infer_instance
      exact ⟨sz (by simp), hh G5 Sx.refl trivial⟩
    · repeat infer_instance
      exact e_tuple (.inl e5) (fin.of (k L fd G5 ((s1.trans sH).trans s5) hL hfin bok))
end
end DL.K81
/-! P12: path_to_part, path_to_tag. -/
namespace DL.K81
open PySem PySem.Spec PyProof.Rows L2 DL
local macro_rules
  | `(tactic| infer_instance) => `(tactic| first
    | with_reducible refine x_seq ?_
    | with_reducible refine x_asgN ?_
    | with_reducible refine x_asg ?_
    | with_reducible refine x_drop ?_
    | with_reducible refine x_ret ?_
    | with_reducible refine x_if ?_
    | with_reducible refine x_par ?_
    | with_reducible refine x_par3 ?_
    | with_reducible refine x_next ?_
    | with_reducible refine x_break ?_
    | with_reducible refine x_cont ?_
    | ((with_reducible refine x_var ?_); refine look rfl ?_)
    | with_reducible refine x_c ?_
    | with_reducible refine x_op ?_
    | with_reducible refine x_un ?_
    | with_reducible refine x_nil ?_
    | with_reducible refine x_cons ?_
    | with_reducible refine x_star ?_
    | with_reducible refine x_cb ?_
    | with_reducible refine x_bm ?_
    | with_reducible refine x_call ?_
    | with_reducible refine x_callK ?_
    | with_reducible refine x_tup ?_
    | with_reducible refine x_lst ?_
    | with_reducible refine x_newD ?_
    | with_reducible refine x_test ?_
    | with_reducible refine x_not ?_
    | with_reducible refine x_and ?_
    | with_reducible refine x_or ?_
    | with_reducible refine x_ifE ?_
    | with_reducible refine x_notV ?_
    | with_reducible refine x_yes ?_
    | with_reducible refine x_gname ?_
    | with_reducible refine x_gnil ?_
    | with_reducible refine x_gcons ?_
    | with_reducible refine x_gtup rfl ?_
    | with_reducible refine x_gsub ?_
    | with_reducible refine x_it ?_
    | with_reducible refine x_range1 ?_
    | with_reducible refine x_enum ?_
    | with_reducible refine x_lc ?_
    | with_reducible refine x_dc ?_
    | with_reducible refine x_for ?_
    | with_reducible refine e_rev ?_
    | with_reducible refine x_arg1 ?_
    | with_reducible refine x_arg2 ?_
    | with_reducible refine x_arg3 ?_
    | with_reducible refine x_isB ?_
    | with_reducible refine x_isI ?_
    | with_reducible refine x_items ?_
    | with_reducible refine x_values ?_
    | with_reducible refine x_keys ?_
    | with_reducible refine x_listV ?_
    | with_reducible refine x_sumV ?_
    | with_reducible refine x_listItems ?_
    | with_reducible refine x_sortItems ?_
    | with_reducible refine x_zipL ?_
    | with_reducible refine x_lenSetI ?_
    | with_reducible refine x_sortSet ?_
    | with_reducible refine x_isI' ?_
    | with_reducible refine x_dpN ?_
    | with_reducible refine x_dpC ?_
    | with_reducible refine x_slice ?_
    | with_reducible refine x_noPart ?_
    | with_reducible refine x_part ?_
    | with_reducible refine x_listR2 ?_
    | with_reducible refine x_range2 ?_
    | ((with_reducible refine x_augI ?_); refine augK rfl ?_))
section
theorem tag_ok : ∀ t ∈ allTags, PyData.strOk t = true := by decide +kernel
theorem tag_q : ∀ t ∈ allTags, t ≠ "?" := by decide +kernel
theorem row_pl {t : Str} {fs : List Nat} (h : TagOk t) : plB (rowD (t, fs)) = true := by
  unfold rowD
  rw [plB, plBs, plBs, plB, plB, tag_ok t h, il_pl]
  rfl
theorem row_dep (p : Str × List Nat) : dep (rowD p) ≤ 2 := by
  unfold rowD
  have := il_dep p.2
  simp only [dep, deps]
  omega
theorem Good.pl {rows : Sheet} (h : Good rows) : plB (sheetD rows) = true := by
  unfold sheetD
  rw [plB]
  refine plBs_all.mpr fun d hd => ?_
  obtain ⟨p, hp, rfl⟩ := List.mem_map.mp hd
  obtain ⟨i, hi⟩ := List.getElem?_of_mem hp
  exact row_pl (h.tag i p.1 p.2 hi)
theorem sheet_dep (rows : Sheet) : dep (sheetD rows) ≤ 3 := by
  unfold sheetD
  rw [dep]
  have := deps_le (ds := rows.map rowD) (n := 2) fun d hd => by
    obtain ⟨p, _, rfl⟩ := List.mem_map.mp hd
    exact row_dep p
  omega
theorem rowD_inj {p r : Str × List Nat} (h : rowD p = rowD r) : p = r := by
  unfold rowD at h
  injection h with h
  injection h with h1 h2
  injection h1 with h1
  injection h2 with h2 _
  injection h2 with h2
  exact Prod.ext h1 (il_inj h2)
theorem sheetD_inj {a b : Sheet} (h : sheetD a = sheetD b) : a = b := by
  unfold sheetD at h
  injection h with h
  exact List.map_inj_right (fun x y => rowD_inj) |>.mp h
def Spathtopart : SpD := fun ds G q => ∃ rows part, ds = [sheetD rows, sheetD part] ∧ Good rows ∧ rows.length < 60 ∧ Good part ∧ ∀ L fd Pw v G', Sx no G G' → M.IsLeast (M.gr rows) 0 L → M.Fp (M.fld (M.gr L)) fd → M.BOk (M.fld (M.gr L)) L.length fd → M.IsLeast (M.gr part) 0 Pw →
  ((∃ x ∈ fd, M.IsLeast (M.gr L) x.1 Pw ∧ v = pathD x.2) ∨ ((∀ x ∈ fd, ¬ M.IsLeast (M.gr L) x.1 Pw) ∧ v = .non)) → q v G'
theorem rdpathtopart (ds : List D) (G : Gp) (q : QD) (h : Spathtopart ds G q) : tpathtopart Sleastsheet Sfirstpaths Srooted { nx := fun _ G' => fin (q .non) G', rt := fun d G' => fin (q d) G' } (startD Npathtopart ds) G := by
  obtain ⟨rows, part, rfl, hg, h60, hgp, k⟩ := h
  unfold tpathtopart
  repeat infer_instance
  refine ⟨rows, rfl, hg, fun L G1 s1 hL => ?_⟩
  have gL := hg.least hg.pos hL
  have hLl : L.length < 60 := by
    have := hL.len_le hg.cl hg.pos (fun _ h => h)
    omega
  repeat infer_instance
  refine ⟨part, rfl, hgp, fun Pw G2 s2 hP => ?_⟩
  have gP := hgp.least hgp.pos hP
  repeat infer_instance
  refine ⟨L, rfl, gL, fun L' fd G3 s3 hL' hF hB => ?_⟩
  have hLL : L' = L := hL'.uniq hL.self (gL.cl.bis gL.pos)
  subst hLL
  refine i_tup ?_
  have s123 := (s1.trans s2).trans s3
  refine ⟨fun i σ H => ∃ x4 x5, σ = [some (sheetD rows), some (sheetD part), some (sheetD L'), some (sheetD Pw), x4, x5] ∧ Sx no G H ∧ ∀ (j : Nat) x, j < i → fd[j]? = some x → ¬ M.IsLeast (M.gr L') x.1 Pw, fin.of ⟨_, _, rfl, s123, fun j x h => by omega⟩, fun _ _ _ _ => trivial, fun i d σ H hd ⟨x4, x5, hσ, sH, hno⟩ => ?_, fun σ H ⟨x4, x5, hσ, sH, hno⟩ => ?_⟩
  · subst hσ
    rw [List.getElem?_map] at hd
    obtain ⟨x, hx, rfl⟩ := Option.map_eq_some_iff.mp hd
    have hxl := hB.lt x (List.mem_of_getElem? hx)
    repeat infer_instance
    refine ⟨L', x.1, rfl, gL, hxl, fun G4 s4 => ?_⟩
    repeat infer_instance
    have gR := rooted_good gL hLl hxl
    refine ⟨rootedM L' x.1, rfl, gR, fun R G5 s5 hR => ?_⟩
    repeat infer_instance
    have hR' : M.IsLeast (M.gr L') x.1 R := hR.of (rooted_bis gL hxl).symm
    refine e_eqT (gR.least gR.pos hR).pl gP.pl (Nat.le_trans (sheet_dep _) (by decide)) (Nat.le_trans (sheet_dep _) (by decide)) fun b hb => ?_
    repeat infer_instance
    cases b with
    | true =>
      rw [if_pos (by rfl)]
      repeat infer_instance
      have e := sheetD_inj (hb.mp rfl)
      subst e
      exact fin.of (k L' fd R _ G5 ((sH.trans s4).trans s5) hL hF hB hP (.inl ⟨x, List.mem_of_getElem? hx, hR', rfl⟩))
    | false =>
      rw [if_neg (by decide)]
      repeat infer_instance
      refine fin.of ⟨_, _, rfl, (sH.trans s4).trans s5, fun j y hj hy hl => ?_⟩
      by_cases e : j = i
      · subst e
        rw [hx] at hy
        cases hy
        have : R = Pw := hR'.uniq hl (gL.cl.bis hxl)
        subst this
        exact Bool.false_ne_true (hb.mpr rfl)
      · exact hno j y (by omega) hy hl
  · subst hσ
    repeat infer_instance
    rw [List.length_map] at hno
    refine fin.of (k L' fd Pw _ H sH hL hF hB hP (.inr ⟨fun x hx hl => ?_, rfl⟩))
    obtain ⟨i, hi⟩ := List.getElem?_of_mem hx
    exact hno i x (List.getElem?_eq_some_iff.mp hi).1 hi hl
def Spathtotag : SpD := fun ds G q => ∃ rows t, ds = [sheetD rows, .str t] ∧ Good rows ∧ ∀ L fd v G', Sx no G G' → M.IsLeast (M.gr rows) 0 L → M.Fp (M.fld (M.gr L)) fd → M.BOk (M.fld (M.gr L)) L.length fd →
  (v = match fd.find? (fun x => decide (tgs (M.gr L) x.1 = t)) with
    | some x => pathD x.2
    | none => .non) → q v G'
theorem rdpathtotag (ds : List D) (G : Gp) (q : QD) (h : Spathtotag ds G q) : tpathtotag Sleastsheet Sfirstpaths { nx := fun _ G' => fin (q .non) G', rt := fun d G' => fin (q d) G' } (startD Npathtotag ds) G := by
  obtain ⟨rows, t, rfl, hg, k⟩ := h
  unfold tpathtotag
  repeat infer_instance
  refine ⟨rows, rfl, hg, fun L G1 s1 hL => ?_⟩
  have gL := hg.least hg.pos hL
  repeat infer_instance
  refine ⟨L, rfl, gL, fun L' fd G3 s3 hL' hF hB => ?_⟩
  have hLL : L' = L := hL'.uniq hL.self (gL.cl.bis gL.pos)
  subst hLL
  refine i_tup ?_
  refine ⟨fun i σ H => ∃ x4 x5, σ = [some (sheetD rows), some (.str t), some (sheetD L'), x4, x5] ∧ Sx no G H ∧ (fd.take i).find? (fun x => decide (tgs (M.gr L') x.1 = t)) = none, fin.of ⟨_, _, rfl, s1.trans s3, rfl⟩, fun _ _ _ _ => trivial, fun i d σ H hd ⟨x4, x5, hσ, sH, hno⟩ => ?_, fun σ H ⟨x4, x5, hσ, sH, hno⟩ => ?_⟩
  · subst hσ
    rw [List.getElem?_map] at hd
    obtain ⟨x, hx, rfl⟩ := Option.map_eq_some_iff.mp hd
    have hxl := hB.lt x (List.mem_of_getElem? hx)
    obtain ⟨tt, fs, ex, _⟩ := gL.row hxl
    have et : tgs (M.gr L') x.1 = tt := tgs_of ex
    repeat infer_instance
    refine sheet_ix ex ?_
    repeat infer_instance
    refine row_tag ?_
    repeat infer_instance
    refine e_eqStr ?_
    repeat infer_instance
    have hsp : fd = fd.take i ++ x :: fd.drop (i + 1) := by rw [← drop_get hx, List.take_append_drop]
    by_cases e : tt = t
    · rw [decide_eq_true e, if_pos (by decide)]
      repeat infer_instance
      refine fin.of (k L' fd _ H sH hL hF hB ?_)
      have hf : fd.find? (fun x => decide (tgs (M.gr L') x.1 = t)) = some x := by
        rw [hsp, List.find?_append, hno, List.find?_cons, decide_eq_true (et.trans e)]
        rfl
      rw [hf]
    · rw [decide_eq_false e, if_neg (by decide)]
      repeat infer_instance
      refine fin.of ⟨_, _, rfl, sH, ?_⟩
      rw [take_succ_get hx, List.find?_append, hno, List.find?_cons, decide_eq_false (fun z => e (et.symm.trans z))]
      rfl
  · subst hσ
    repeat infer_instance
    rw [List.length_map, List.take_length] at hno
    refine fin.of (k L' fd _ H sH hL hF hB ?_)
    rw [hno]
end
end DL.K81
/-! X7: counts by levels; what may be sorted. -/
namespace DL
open PySem PySem.Spec PyProof.Rows L2
open PySem.W (dataLe AllAlike Sortable alike)
section
variable {κ : Type} [DecidableEq κ]
def addK (m : List (κ × Int)) (k : κ) (v : Int) : List (κ × Int) := aput m k ((aget m k).getD 0 + v)
def addAll (m : List (κ × Int)) (ks : List κ) (v : Int) : List (κ × Int) := ks.foldl (fun m k => addK m k v) m
def nextLv (f : Nat → List Nat) (c : List (Nat × Int)) : List (Nat × Int) := c.foldl (fun acc x => addAll acc (f x.1) x.2) []
def lv (f : Nat → List Nat) : Nat → List (Nat × Int)
  | 0 => [(0, 1)]
  | n + 1 => nextLv f (lv f n)
def tot {κ : Type} (c : List (κ × Int)) : Int := (c.map (·.2)).sum
def tagLv (tg : Nat → κ) (acc : List (κ × Int)) (c : List (Nat × Int)) : List (κ × Int) := c.foldl (fun acc x => addK acc (tg x.1) x.2) acc
def tagAll (tg : Nat → κ) (f : Nat → List Nat) : Nat → List (κ × Int)
  | 0 => []
  | n + 1 => tagLv tg (tagAll tg f n) (lv f n)
/-- keys that differ, all of S -/
structure KOk (S : κ → Prop) (m : List (κ × Int)) : Prop where
  nd : (m.map (·.1)).Nodup
  mem : ∀ x ∈ m, S x.1
theorem KOk.nil {S : κ → Prop} : KOk S ([] : List (κ × Int)) := ⟨List.nodup_nil, fun _ h => nomatch h⟩
theorem KOk.add {S : κ → Prop} {m : List (κ × Int)} (h : KOk S m) {k : κ} (hk : S k) (v : Int) : KOk S (addK m k v) := by
  unfold addK
  refine ⟨?_, fun x hx => ?_⟩
  · rw [aput_keys]
    split
    · exact h.nd
    · rename_i hn
      rw [List.nodup_append]
      refine ⟨h.nd, by simp, fun a ha b hb => ?_⟩
      have : b = k := by simpa using hb
      subst this
      rintro rfl
      exact hn ha
  · have hm : x.1 ∈ (aput m k ((aget m k).getD 0 + v)).map (·.1) := List.mem_map.mpr ⟨x, hx, rfl⟩
    rw [aput_keys] at hm
    have old : x.1 ∈ m.map (·.1) → S x.1 := fun z => by
      obtain ⟨y, hy, e⟩ := List.mem_map.mp z
      rw [← e]
      exact h.mem y hy
    split at hm
    · exact old hm
    · rcases List.mem_append.mp hm with hm | hm
      · exact old hm
      · have : x.1 = k := by simpa using hm
        rw [this]
        exact hk
theorem KOk.addAll {S : κ → Prop} (v : Int) : ∀ (ks : List κ) {m : List (κ × Int)}, KOk S m → (∀ k ∈ ks, S k) → KOk S (addAll m ks v)
  | [], m, h, _ => h
  | k :: ks, m, h, hk => KOk.addAll v ks (h.add (hk k List.mem_cons_self) v) fun x hx => hk x (List.mem_cons_of_mem _ hx)
theorem KOk.next {f : Nat → List Nat} {S : Nat → Prop} (hf : ∀ a, S a → ∀ x ∈ f a, S x) {c : List (Nat × Int)} (h : ∀ x ∈ c, S x.1) : KOk S (nextLv f c) := by
  have all : ∀ (c acc : List (Nat × Int)), (∀ x ∈ c, S x.1) → KOk S acc → KOk S (c.foldl (fun acc x => DL.addAll acc (f x.1) x.2) acc) := by
    intro c
    induction c with
    | nil => exact fun _ _ h => h
    | cons x c ih => exact fun acc hc h => ih _ (fun y hy => hc y (List.mem_cons_of_mem _ hy)) (h.addAll x.2 (f x.1) (hf _ (hc x List.mem_cons_self)))
  exact all c [] h .nil
theorem KOk.lv {f : Nat → List Nat} {S : Nat → Prop} (hf : ∀ a, S a → ∀ x ∈ f a, S x) (h0 : S 0) : ∀ n, KOk S (lv f n)
  | 0 => ⟨by simp [DL.lv], fun x hx => by
      have : x = (0, 1) := by simpa [DL.lv] using hx
      rw [this]
      exact h0⟩
  | n + 1 => KOk.next hf (KOk.lv hf h0 n).mem
theorem KOk.tagLv {tg : Nat → κ} {S : κ → Prop} : ∀ (c : List (Nat × Int)) {acc : List (κ × Int)}, KOk S acc → (∀ x ∈ c, S (tg x.1)) → KOk S (tagLv tg acc c)
  | [], acc, h, _ => h
  | x :: c, acc, h, hc => KOk.tagLv c (h.add (hc x List.mem_cons_self) x.2) fun y hy => hc y (List.mem_cons_of_mem _ hy)
theorem KOk.tagAll {tg : Nat → κ} {f : Nat → List Nat} {S : κ → Prop} {T : Nat → Prop} (hf : ∀ a, T a → ∀ x ∈ f a, T x) (h0 : T 0) (ht : ∀ a, T a → S (tg a)) : ∀ n, KOk S (tagAll tg f n)
  | 0 => .nil
  | n + 1 => KOk.tagLv _ (KOk.tagAll hf h0 ht n) fun x hx => ht _ ((KOk.lv hf h0 n).mem x hx)
theorem KOk.len {N : Nat} {m : List (Nat × Int)} (h : KOk (· < N) m) : m.length ≤ N := by
  have := M.nodup_le h.nd (N := N) fun a ha => by
    obtain ⟨x, hx, rfl⟩ := List.mem_map.mp ha
    exact h.mem x hx
  simpa using this
theorem KOk.lenL {l : List κ} {m : List (κ × Int)} (h : KOk (· ∈ l) m) : m.length ≤ l.length := by
  have := M.len_le_sub h.nd (D := l) fun a ha => by
    obtain ⟨x, hx, rfl⟩ := List.mem_map.mp ha
    exact h.mem x hx
  simpa using this
/-! sums -/
theorem tot_add (m : List (κ × Int)) (nd : (m.map (·.1)).Nodup) (k : κ) (v : Int) : tot (addK m k v) = tot m + v := by
  unfold addK
  cases e : aget m k with
  | none =>
    rw [aput_new e]
    unfold tot
    rw [List.map_append, List.sum_append]
    simp
  | some w =>
    unfold aput
    have hk : k ∈ m.map (·.1) := by
      refine Decidable.byContradiction fun z => ?_
      rw [aget_none.mpr z] at e
      cases e
    rw [if_pos (by
      obtain ⟨p, hp, ep⟩ := List.mem_map.mp hk
      exact List.any_eq_true.mpr ⟨p, hp, decide_eq_true ep⟩)]
    clear hk
    show tot (m.map fun p => if p.1 = k then (p.1, w + v) else p) = _
    induction m with
    | nil => cases e
    | cons p m ih =>
      rw [List.map_cons, List.nodup_cons] at nd
      unfold tot at ih ⊢
      rw [List.map_cons, List.map_cons, List.sum_cons, List.map_cons, List.sum_cons]
      by_cases hp : p.1 = k
      · have ew : p.2 = w := by
          unfold aget at e
          rw [List.find?_cons, decide_eq_true hp] at e
          exact Option.some.inj e
        rw [if_pos hp]
        have rest : (m.map fun p => if p.1 = k then (p.1, w + v) else p) = m := by
          have h1 : (m.map fun p => if p.1 = k then (p.1, w + v) else p) = m.map id := List.map_congr_left fun r hr => if_neg fun z => nd.1 (List.mem_map.mpr ⟨r, hr, z.trans hp.symm⟩)
          rw [h1, List.map_id]
        rw [rest, ew]
        show w + v + _ = _
        omega
      · rw [if_neg hp]
        have e2 : aget m k = some w := by
          unfold aget at e ⊢
          rw [List.find?_cons, decide_eq_false hp] at e
          exact e
        have := ih nd.2 e2
        omega
theorem tot_tagLv {tg : Nat → κ} {S : κ → Prop} : ∀ (c : List (Nat × Int)) {acc : List (κ × Int)}, KOk S acc → (∀ x ∈ c, S (tg x.1)) → tot (tagLv tg acc c) = tot acc + tot c
  | [], acc, _, _ => by simp [tagLv, tot]
  | x :: c, acc, h, hc => by
    have ih := tot_tagLv (tg := tg) c (h.add (hc x List.mem_cons_self) x.2) fun y hy => hc y (List.mem_cons_of_mem _ hy)
    have h2 := tot_add acc h.nd (tg x.1) x.2
    show tot (tagLv tg (addK acc (tg x.1) x.2) c) = _
    rw [ih, h2]
    unfold tot
    rw [List.map_cons, List.sum_cons]
    omega
theorem tot_tagAll {tg : Nat → κ} {f : Nat → List Nat} {S : κ → Prop} {T : Nat → Prop} (hf : ∀ a, T a → ∀ x ∈ f a, T x) (h0 : T 0) (ht : ∀ a, T a → S (tg a)) : ∀ n, tot (tagAll tg f n) = ((List.range n).map fun i => tot (lv f i)).sum
  | 0 => rfl
  | n + 1 => by
    show tot (tagLv tg (tagAll tg f n) (lv f n)) = _
    rw [tot_tagLv (lv f n) (KOk.tagAll hf h0 ht n) (fun x hx => ht _ ((KOk.lv hf h0 n).mem x hx)), tot_tagAll hf h0 ht n, List.range_succ, List.map_append, List.sum_append]
    simp
end
/-! ### what may be sorted -/
theorem sortD_si {ds : List D} (h : ∀ d ∈ ds, ∃ s i, d = .tup [.str s, .int i]) : SortD ds where
  dt := fun d hd => by
    obtain ⟨s, i, rfl⟩ := h d hd
    exact ⟨.tuple [.str s, .int i], rfl, by simp [PyData.depth, PyData.depthAll]⟩
  al := fun p hp r hr => by
    obtain ⟨d, hd, rfl⟩ := List.mem_map.mp hp
    obtain ⟨e, he, rfl⟩ := List.mem_map.mp hr
    obtain ⟨s, i, rfl⟩ := h d hd
    obtain ⟨s', i', rfl⟩ := h e he
    show alike (.tuple [.str s, .int i]) (.tuple [.str s', .int i']) = true
    simp [alike, PySem.W.alikeAll]
  so := .inl fun p hp => by
    obtain ⟨d, hd, rfl⟩ := List.mem_map.mp hp
    obtain ⟨s, i, rfl⟩ := h d hd
    exact ⟨_, _, rfl⟩
theorem alike_ints : ∀ a b : List Nat, PySem.W.alikeAll (a.map fun n : Nat => PyData.int (n : Int)) (b.map fun n : Nat => PyData.int (n : Int)) = true
  | [], _ => by simp [PySem.W.alikeAll]
  | _ :: _, [] => by simp [PySem.W.alikeAll]
  | x :: a, y :: b => by
    rw [List.map_cons, List.map_cons, PySem.W.alikeAll, alike_ints a b]
    simp [alike]
theorem dats_il (ns : List Nat) : dats (il ns) = some (ns.map fun n : Nat => PyData.int (n : Int)) := by
  rw [il_ints, dats_ints, List.map_map]
  rfl
theorem sortD_it {ds : List D} (h : ∀ d ∈ ds, ∃ i l, d = .tup [nD i, .tup (il l)]) : SortD ds := by
  have e : ∀ (i : Nat) l, dat (.tup [nD i, .tup (il l)]) = some (.tuple [.int (i : Int), .tuple (l.map fun n : Nat => PyData.int (n : Int))]) := fun i l => by
    show (match dat (nD i), dats [.tup (il l)] with | some p, some ps => some (p :: ps) | _, _ => none).map PyData.tuple = _
    have e2 : dats [D.tup (il l)] = some [.tuple (l.map fun n : Nat => PyData.int (n : Int))] := by
      show (match (dats (il l)).map PyData.tuple, dats [] with | some p, some ps => some (p :: ps) | _, _ => none) = _
      rw [dats_il]
      rfl
    rw [e2]
    rfl
  have dp : ∀ l : List Nat, PyData.depthAll (l.map fun n : Nat => PyData.int (n : Int)) ≤ 0 := fun l => by
    have := ints_depth (l.map fun n : Nat => (n : Int))
    rwa [List.map_map] at this
  refine ⟨fun d hd => ?_, fun p hp r hr => ?_, .inl fun p hp => ?_⟩
  · obtain ⟨i, l, rfl⟩ := h d hd
    have := dp l
    exact ⟨_, e i l, by simp only [PyData.depth, PyData.depthAll]; omega⟩
  · obtain ⟨d, hd, rfl⟩ := List.mem_map.mp hp
    obtain ⟨d2, he, rfl⟩ := List.mem_map.mp hr
    obtain ⟨i, l, rfl⟩ := h d hd
    obtain ⟨i', l', rfl⟩ := h d2 he
    unfold enc
    rw [e, e]
    show alike (.tuple _) (.tuple _) = true
    simp [alike, PySem.W.alikeAll, alike_ints]
  · obtain ⟨d, hd, rfl⟩ := List.mem_map.mp hp
    obtain ⟨i, l, rfl⟩ := h d hd
    unfold enc
    rw [e]
    exact ⟨_, _, rfl⟩
end DL
/-! P13: level_counts, tag_counts. -/
namespace DL.K81
open PySem PySem.Spec PyProof.Rows L2 DL
open PySem.W (dataLe)
local macro_rules
  | `(tactic| infer_instance) => `(tactic| first
    | with_reducible refine x_seq ?_
    | with_reducible refine x_asgN ?_
    | with_reducible refine x_asg ?_
    | with_reducible refine x_drop ?_
    | with_reducible refine x_ret ?_
    | with_reducible refine x_if ?_
    | with_reducible refine x_par ?_
    | with_reducible refine x_par3 ?_
    | with_reducible refine x_next ?_
    | with_reducible refine x_break ?_
    | with_reducible refine x_cont ?_
    | ((with_reducible refine x_var ?_); refine look rfl ?_)
    | with_reducible refine x_c ?_
    | with_reducible refine x_op ?_
    | with_reducible refine x_un ?_
    | with_reducible refine x_nil ?_
    | with_reducible refine x_cons ?_
    | with_reducible refine x_star ?_
    | with_reducible refine x_cb ?_
    | with_reducible refine x_bm ?_
    | with_reducible refine x_call ?_
    | with_reducible refine x_callK ?_
    | with_reducible refine x_tup ?_
    | with_reducible refine x_lst ?_
    | with_reducible refine x_newD ?_
    | with_reducible refine x_test ?_
    | with_reducible refine x_not ?_
    | with_reducible refine x_and ?_
    | with_reducible refine x_or ?_
    | with_reducible refine x_ifE ?_
    | with_reducible refine x_notV ?_
    | with_reducible refine x_yes ?_
    | with_reducible refine x_gname ?_
    | with_reducible refine x_gnil ?_
    | with_reducible refine x_gcons ?_
    | with_reducible refine x_gtup rfl ?_
    | with_reducible refine x_gsub ?_
    | with_reducible refine x_it ?_
    | with_reducible refine x_range1 ?_
    | with_reducible refine x_enum ?_
    | with_reducible refine x_lc ?_
    | with_reducible refine x_dc ?_
    | with_reducible refine x_for ?_
    | with_reducible refine e_rev ?_
    | with_reducible refine x_arg1 ?_
    | with_reducible refine x_arg2 ?_
    | with_reducible refine x_arg3 ?_
    | with_reducible refine x_isB ?_
    | with_reducible refine x_isI ?_
    | with_reducible refine x_items ?_
    | with_reducible refine x_values ?_
    | with_reducible refine x_keys ?_
    | with_reducible refine x_listV ?_
    | with_reducible refine x_sumV ?_
    | with_reducible refine x_listItems ?_
    | with_reducible refine x_sortItems ?_
    | with_reducible refine x_zipL ?_
    | with_reducible refine x_lenSetI ?_
    | with_reducible refine x_sortSet ?_
    | with_reducible refine x_isI' ?_
    | with_reducible refine x_dpN ?_
    | with_reducible refine x_dpC ?_
    | with_reducible refine x_slice ?_
    | with_reducible refine x_noPart ?_
    | with_reducible refine x_part ?_
    | with_reducible refine x_listR2 ?_
    | with_reducible refine x_range2 ?_
    | ((with_reducible refine x_augI ?_); refine augK rfl ?_))
section
abbrev cD (m : List (Nat × Int)) : MO := .dic (kd nD D.int m)
abbrev cR (m : List (Nat × Int)) : MO := .rdc (kd nD D.int m)
theorem get_cD {G : Gp} {a : Addr} {m : List (Nat × Int)} {k : Nat} {q : QD} (h : G a = some (cD m)) (kk : q (.int ((aget m k).getD 0)) G) : rGet (.ref a) [nD k, .int 0] G q := by
  refine e_get (.inl h) (kd_fits key_nat _ k) ?_
  rw [kd_get key_nat]
  cases e : aget m k with
  | none => rw [e] at kk; exact kk
  | some v => rw [e] at kk; exact kk
theorem get_sD {G : Gp} {a : Addr} {m : List (Str × Int)} {k : Str} {q : QD} (h : G a = some (.dic (kd D.str D.int m))) (kk : q (.int ((aget m k).getD 0)) G) : rGet (.ref a) [.str k, .int 0] G q := by
  refine e_get (.inl h) (kd_fits key_str _ k) ?_
  rw [kd_get key_str]
  cases e : aget m k with
  | none => rw [e] at kk; exact kk
  | some v => rw [e] at kk; exact kk
theorem vals_ints {κ : Type} {K : κ → D} (m : List (κ × Int)) : (kd K D.int m).map (·.2) = (m.map (·.2)).map D.int := by
  unfold kd
  rw [List.map_map, List.map_map]
  rfl
theorem rng_get {n : Nat} {i : Nat} {d : D} (h : ((List.range n).map fun i => D.int (i : Nat))[i]? = some d) : i < n ∧ d = nD i := by
  rw [List.getElem?_map] at h
  obtain ⟨j, hj, rfl⟩ := Option.map_eq_some_iff.mp h
  have hl := (List.getElem?_eq_some_iff.mp hj).1
  rw [List.length_range] at hl
  rw [List.getElem?_range hl] at hj
  cases hj
  exact ⟨hl, rfl⟩
theorem items_get {m : List (Nat × Int)} {i : Nat} {d : D} (h : ((kd nD D.int m).map fun p => D.tup [p.1, p.2])[i]? = some d) : ∃ x, m[i]? = some x ∧ d = .tup [nD x.1, .int x.2] := by
  unfold kd at h
  rw [List.map_map, List.getElem?_map] at h
  obtain ⟨x, hx, rfl⟩ := Option.map_eq_some_iff.mp h
  exact ⟨x, hx, rfl⟩
def levD (f : Nat → List Nat) (n : Nat) : D := .tup ((List.range n).map fun i => .int (tot (lv f i)))
def Slevelcounts : SpD := fun ds G q => ∃ rows depth, ds = [sheetD rows, nD depth] ∧ Good rows ∧ depth ≤ 1000 ∧ ∀ L G', Sx no G G' → M.IsLeast (M.gr rows) 0 L → q (levD (M.fld (M.gr L)) (depth + 1)) G'
theorem rdlevelcounts (ds : List D) (G : Gp) (q : QD) (h : Slevelcounts ds G q) : tlevelcounts Sleastsheet { nx := fun _ G' => fin (q .non) G', rt := fun d G' => fin (q d) G' } (startD Nlevelcounts ds) G := by
  obtain ⟨rows, depth, rfl, hg, hd, k⟩ := h
  unfold tlevelcounts
  repeat infer_instance
  refine ⟨rows, rfl, hg, fun L G1 s1 hL => ?_⟩
  have gL := hg.least hg.pos hL
  have hle := gL.le
  repeat infer_instance
  refine x_disp fun pc hpc => ?_
  have s2 : Sx no G1 (gup G1 pc (.dic [])) := Sx.refl.gup hpc
  have e2 : gup G1 pc (.dic []) pc = some (.dic []) := gup_same
  generalize gup G1 pc (.dic []) = G2 at s2 e2 ⊢
  repeat infer_instance
  refine ⟨e2, fun p hp => ⟨.inl 0, by have : p = (D.int 0, D.int 1) := by simpa using hp
                                      rw [this]; rfl⟩, by decide, ?_⟩
  have s3 : Sx no G1 (gup G2 pc (.dic (dputs [(D.int 0, D.int 1)]))) := s2.gup hpc
  have e3 : gup G2 pc (.dic (dputs [(D.int 0, D.int 1)])) pc = some (cD [(0, 1)]) := gup_same
  generalize gup G2 pc (.dic (dputs [(D.int 0, D.int 1)])) = G3 at s3 e3 ⊢
  repeat infer_instance
  refine ⟨sz (by simp), new_run fun pf G4 hpf s4 e4 _ => ?_⟩
  repeat infer_instance
  refine e_addI ?_
  repeat infer_instance
  have nef : pc ≠ pf := by rintro rfl; rw [e3] at hpf; cases hpf
  have gpf : G1 pf = none := s3.bk hpf
  have gf : ∀ a, a < L.length → ∀ x ∈ M.fld (M.gr L) a, x < L.length := fun a ha => gL.cl.fld ha
  have kok : ∀ n, KOk (· < L.length) (lv (M.fld (M.gr L)) n) := fun n => KOk.lv gf gL.pos n
  refine ⟨⟨by show -(2 ^ 62) ≤ ((depth : Int) + 1); omega, by show ((depth : Int) + 1) < 2 ^ 62; omega⟩, ?_⟩
  have en : (((depth : Nat) : Int) + 1).toNat = depth + 1 := by omega
  rw [en]
  refine ⟨fun i σ H => ∃ pc x5 x6 x7 x8 x9, σ = [some (sheetD rows), some (nD depth), some (sheetD L), some (.ref pc), some (.ref pf), x5, x6, x7, x8, x9] ∧ Sx no G1 H ∧ G1 pc = none ∧ pc ≠ pf ∧ H pc = some (cD (lv (M.fld (M.gr L)) i)) ∧ H pf = some (.lst ((List.range i).map fun i => .int (tot (lv (M.fld (M.gr L)) i)))) ∧ i ≤ depth + 1,
    fin.of ⟨pc, _, _, _, _, _, rfl, s3.trans s4, hpc, nef, s4 pc _ id e3, e4, Nat.zero_le _⟩, fun _ _ _ _ => trivial, fun i d σ H hdd ⟨pc, x5, x6, x7, x8, x9, hσ, sH, gpc, nef, epc, epf, _⟩ => ?_, fun σ H ⟨pc, x5, x6, x7, x8, x9, hσ, sH, gpc, nef, epc, epf, hi⟩ => ?_⟩
  · subst hσ
    obtain ⟨hi, rfl⟩ := rng_get hdd
    repeat infer_instance
    refine ⟨t_lst (.inl epf), ?_⟩
    repeat infer_instance
    refine e_dicK epc (kd_nat _) ⟨_, vals_ints _, ?_⟩
    repeat infer_instance
    refine e_app epf (by rw [List.length_map, List.length_range, sizeLine_eq]; omega) ?_
    have sH2 : Sx no G1 (gup H pf (.lst (((List.range i).map fun i => .int (tot (lv (M.fld (M.gr L)) i))) ++ [.int ((lv (M.fld (M.gr L)) i).map (·.2)).sum]))) := sH.gup gpf
    have epf2 : gup H pf (.lst (((List.range i).map fun i => .int (tot (lv (M.fld (M.gr L)) i))) ++ [.int ((lv (M.fld (M.gr L)) i).map (·.2)).sum])) pf = some (.lst ((List.range (i + 1)).map fun i => .int (tot (lv (M.fld (M.gr L)) i)))) := by
      rw [gup_same, List.range_succ, List.map_append]
      rfl
    have epc2 : gup H pf (.lst (((List.range i).map fun i => .int (tot (lv (M.fld (M.gr L)) i))) ++ [.int ((lv (M.fld (M.gr L)) i).map (·.2)).sum])) pc = _ := (gup_ne nef).trans epc
    generalize gup H pf (.lst (((List.range i).map fun i => .int (tot (lv (M.fld (M.gr L)) i))) ++ [.int ((lv (M.fld (M.gr L)) i).map (·.2)).sum])) = H2 at sH2 epf2 epc2 ⊢
    repeat infer_instance
    refine new_run fun pu H3 hpu s5 epu _ => ?_
    repeat infer_instance
    have epc3 := s5 _ _ id epc2
    have epf3 := s5 _ _ id epf2
    have sH3 := sH2.trans s5
    have gpu : G1 pu = none := sH2.bk hpu
    have nuc : pu ≠ pc := by rintro rfl; rw [epc2] at hpu; cases hpu
    have nuf : pu ≠ pf := by rintro rfl; rw [epf2] at hpu; cases hpu
    refine x_lock epc3 ?_
    have sB : Sx no G1 (gup H3 pc (cR (lv (M.fld (M.gr L)) i))) := sH3.gup gpc
    have ecB : gup H3 pc (cR (lv (M.fld (M.gr L)) i)) pc = _ := gup_same
    have efB : gup H3 pc (cR (lv (M.fld (M.gr L)) i)) pf = _ := (gup_ne (Ne.symm nef)).trans epf3
    have euB : gup H3 pc (cR (lv (M.fld (M.gr L)) i)) pu = some (cD []) := (gup_ne nuc).trans epu
    generalize gup H3 pc (cR (lv (M.fld (M.gr L)) i)) = B at sB ecB efB euB ⊢
    repeat infer_instance
    refine e_rdcK ecB (kd_nat _) ?_
    refine ⟨fun j σ K => ∃ acc x7 x8 x9, σ = [some (sheetD rows), some (nD depth), some (sheetD L), some (.ref pc), some (.ref pf), some (nD i), some (.ref pu), x7, x8, x9] ∧ Sx no G1 K ∧ K pc = some (cR (lv (M.fld (M.gr L)) i)) ∧ K pf = some (.lst ((List.range (i + 1)).map fun i => .int (tot (lv (M.fld (M.gr L)) i)))) ∧ K pu = some (cD acc) ∧ KOk (· < L.length) acc ∧ ((lv (M.fld (M.gr L)) i).drop j).foldl (fun acc x => addAll acc (M.fld (M.gr L) x.1) x.2) acc = lv (M.fld (M.gr L)) (i + 1),
      fin.of ⟨[], _, _, _, rfl, sB, ecB, efB, euB, .nil, rfl⟩, fun _ _ _ _ => trivial, fun j d σ K hd2 ⟨acc, x7, x8, x9, hσ, sK, ec, ef, eu, ok, hrun⟩ => ?_, fun σ K ⟨acc, x7, x8, x9, hσ, sK, ec, ef, eu, ok, hrun⟩ => ?_⟩
    · subst hσ
      obtain ⟨x, hx, rfl⟩ := items_get hd2
      have hxl := (kok i).mem x (List.mem_of_getElem? hx)
      obtain ⟨t, fs, er, hfs, hf8⟩ := gL.row hxl
      have hfl : M.fld (M.gr L) x.1 = fs := M.fld_of er
      rw [drop_get hx, List.foldl_cons] at hrun
      repeat infer_instance
      refine sheet_ix er ?_
      repeat infer_instance
      refine row_fld ?_
      refine i_tup ?_
      refine ⟨fun z σ K => ∃ acc2 x9, σ = [some (sheetD rows), some (nD depth), some (sheetD L), some (.ref pc), some (.ref pf), some (nD i), some (.ref pu), some (nD x.1), some (.int x.2), x9] ∧ Sx no G1 K ∧ K pc = some (cR (lv (M.fld (M.gr L)) i)) ∧ K pf = some (.lst ((List.range (i + 1)).map fun i => .int (tot (lv (M.fld (M.gr L)) i)))) ∧ K pu = some (cD acc2) ∧ KOk (· < L.length) acc2 ∧ (fs.drop z).foldl (fun m k => addK m k x.2) acc2 = addAll acc fs x.2,
        fin.of ⟨acc, _, rfl, sK, ec, ef, eu, ok, rfl⟩, fun _ _ _ _ => trivial, fun z d σ K hd3 ⟨acc2, x9, hσ, sK, ec, ef, eu, ok, hrun2⟩ => ?_, fun σ K ⟨acc2, x9, hσ, sK, ec, ef, eu, ok, hrun2⟩ => ?_⟩
      · subst hσ
        obtain ⟨y, hy, rfl⟩ := il_gev hd3
        rw [drop_get hy, List.foldl_cons] at hrun2
        have ol := ok.len
        repeat infer_instance
        refine ⟨t_dic (.inl eu), ?_⟩
        repeat infer_instance
        refine get_cD eu ?_
        repeat infer_instance
        refine e_addI ?_
        repeat infer_instance
        refine e_setD eu (kd_fits key_nat _ y) (by rw [kd_len]; exact szl (by omega)) ?_
        rw [kd_put key_nat]
        exact fin.of ⟨addK acc2 y x.2, _, rfl, sK.gup gpu, (gup_ne (Ne.symm nuc)).trans ec, (gup_ne (Ne.symm nuf)).trans ef, gup_same, ok.add (hfs y (List.mem_of_getElem? hy)) x.2, hrun2⟩
      · subst hσ
        rw [List.length_map, List.drop_length] at hrun2
        have hrun2 : acc2 = addAll acc fs x.2 := hrun2
        subst hrun2
        refine fin.of ⟨addAll acc fs x.2, _, _, _, rfl, sK, ec, ef, eu, ok, ?_⟩
        rw [hfl] at hrun
        exact hrun
    · subst hσ
      rw [List.length_map, kd_len, List.drop_length] at hrun
      have hrun : acc = lv (M.fld (M.gr L)) (i + 1) := hrun
      subst hrun
      refine ⟨ec, ?_⟩
      have sK2 : Sx no G1 (gup K pc (cD (lv (M.fld (M.gr L)) i))) := sK.gup gpc
      have ef2 : gup K pc (cD (lv (M.fld (M.gr L)) i)) pf = _ := (gup_ne (Ne.symm nef)).trans ef
      have eu2 : gup K pc (cD (lv (M.fld (M.gr L)) i)) pu = _ := (gup_ne nuc).trans eu
      generalize gup K pc (cD (lv (M.fld (M.gr L)) i)) = K2 at sK2 ef2 eu2 ⊢
      repeat infer_instance
      exact fin.of ⟨pu, _, _, _, _, _, rfl, sK2, gpu, nuf, eu2, ef2, by omega⟩
  · subst hσ
    rw [List.length_map, List.length_range] at epf
    repeat infer_instance
    exact e_tuple (.inl epf) (fin.of (k L H (s1.trans sH) hL))
end
end DL.K81
/-! P14: tag_counts. -/
namespace DL.K81
open PySem PySem.Spec PyProof.Rows L2 DL
open PySem.W (dataLe)
local macro_rules
  | `(tactic| infer_instance) => `(tactic| first
    | with_reducible refine x_seq ?_
    | with_reducible refine x_asgN ?_
    | with_reducible refine x_asg ?_
    | with_reducible refine x_drop ?_
    | with_reducible refine x_ret ?_
    | with_reducible refine x_if ?_
    | with_reducible refine x_par ?_
    | with_reducible refine x_par3 ?_
    | with_reducible refine x_next ?_
    | with_reducible refine x_break ?_
    | with_reducible refine x_cont ?_
    | ((with_reducible refine x_var ?_); refine look rfl ?_)
    | with_reducible refine x_c ?_
    | with_reducible refine x_op ?_
    | with_reducible refine x_un ?_
    | with_reducible refine x_nil ?_
    | with_reducible refine x_cons ?_
    | with_reducible refine x_star ?_
    | with_reducible refine x_cb ?_
    | with_reducible refine x_bm ?_
    | with_reducible refine x_call ?_
    | with_reducible refine x_callK ?_
    | with_reducible refine x_tup ?_
    | with_reducible refine x_lst ?_
    | with_reducible refine x_newD ?_
    | with_reducible refine x_test ?_
    | with_reducible refine x_not ?_
    | with_reducible refine x_and ?_
    | with_reducible refine x_or ?_
    | with_reducible refine x_ifE ?_
    | with_reducible refine x_notV ?_
    | with_reducible refine x_yes ?_
    | with_reducible refine x_gname ?_
    | with_reducible refine x_gnil ?_
    | with_reducible refine x_gcons ?_
    | with_reducible refine x_gtup rfl ?_
    | with_reducible refine x_gsub ?_
    | with_reducible refine x_it ?_
    | with_reducible refine x_range1 ?_
    | with_reducible refine x_enum ?_
    | with_reducible refine x_lc ?_
    | with_reducible refine x_dc ?_
    | with_reducible refine x_for ?_
    | with_reducible refine e_rev ?_
    | with_reducible refine x_arg1 ?_
    | with_reducible refine x_arg2 ?_
    | with_reducible refine x_arg3 ?_
    | with_reducible refine x_isB ?_
    | with_reducible refine x_isI ?_
    | with_reducible refine x_items ?_
    | with_reducible refine x_values ?_
    | with_reducible refine x_keys ?_
    | with_reducible refine x_listV ?_
    | with_reducible refine x_sumV ?_
    | with_reducible refine x_listItems ?_
    | with_reducible refine x_sortItems ?_
    | with_reducible refine x_zipL ?_
    | with_reducible refine x_lenSetI ?_
    | with_reducible refine x_sortSet ?_
    | with_reducible refine x_isI' ?_
    | with_reducible refine x_dpN ?_
    | with_reducible refine x_dpC ?_
    | with_reducible refine x_slice ?_
    | with_reducible refine x_noPart ?_
    | with_reducible refine x_part ?_
    | with_reducible refine x_listR2 ?_
    | with_reducible refine x_range2 ?_
    | ((with_reducible refine x_augI ?_); refine augK rfl ?_))
section
abbrev sD (m : List (Str × Int)) : MO := .dic (kd D.str D.int m)
/-- the pairs of a dict, sorted -/
def tagD (m : List (Str × Int)) : D := .tup ((pairsD (kd D.str D.int m)).mergeSort (dataLe false enc))
theorem pairs_sort (m : List (Str × Int)) : SortD (pairsD (kd D.str D.int m)) := sortD_si fun d hd => by
  unfold pairsD kd at hd
  rw [List.map_map] at hd
  obtain ⟨x, _, rfl⟩ := List.mem_map.mp hd
  exact ⟨x.1, x.2, rfl⟩
theorem tgs_ok {rows : Sheet} (h : Good rows) {i : Nat} (hi : i < rows.length) : tgs (M.gr rows) i ∈ allTags := by
  obtain ⟨t, fs, e, _⟩ := h.row hi
  have e' : M.gr rows i = some (t, fs) := e
  rw [tgs_of e']
  exact h.tag i t fs e
def Stagcounts : SpD := fun ds G q => ∃ rows depth, ds = [sheetD rows, nD depth] ∧ Good rows ∧ depth ≤ 1000 ∧ ∀ L G', Sx no G G' → M.IsLeast (M.gr rows) 0 L → q (tagD (tagAll (tgs (M.gr L)) (M.fld (M.gr L)) (depth + 1))) G'
theorem rdtagcounts (ds : List D) (G : Gp) (q : QD) (h : Stagcounts ds G q) : ttagcounts Sleastsheet { nx := fun _ G' => fin (q .non) G', rt := fun d G' => fin (q d) G' } (startD Ntagcounts ds) G := by
  obtain ⟨rows, depth, rfl, hg, hd, k⟩ := h
  unfold ttagcounts
  repeat infer_instance
  refine ⟨rows, rfl, hg, fun L G1 s1 hL => ?_⟩
  have gL := hg.least hg.pos hL
  have hle := gL.le
  repeat infer_instance
  refine x_disp fun pc hpc => ?_
  have s2 : Sx no G1 (gup G1 pc (.dic [])) := Sx.refl.gup hpc
  have e2 : gup G1 pc (.dic []) pc = some (.dic []) := gup_same
  generalize gup G1 pc (.dic []) = G2 at s2 e2 ⊢
  repeat infer_instance
  refine ⟨e2, fun p hp => ⟨.inl 0, by have : p = (D.int 0, D.int 1) := by simpa using hp
                                      rw [this]; rfl⟩, by decide, ?_⟩
  have s3 : Sx no G1 (gup G2 pc (.dic (dputs [(D.int 0, D.int 1)]))) := s2.gup hpc
  have e3 : gup G2 pc (.dic (dputs [(D.int 0, D.int 1)])) pc = some (cD [(0, 1)]) := gup_same
  generalize gup G2 pc (.dic (dputs [(D.int 0, D.int 1)])) = G3 at s3 e3 ⊢
  repeat infer_instance
  refine new_run fun pf G4 hpf s4 e4 _ => ?_
  repeat infer_instance
  refine e_addI ?_
  repeat infer_instance
  have nef : pc ≠ pf := by rintro rfl; rw [e3] at hpf; cases hpf
  have gpf : G1 pf = none := s3.bk hpf
  have gf : ∀ a, a < L.length → ∀ x ∈ M.fld (M.gr L) a, x < L.length := fun a ha => gL.cl.fld ha
  have gt : ∀ a, a < L.length → tgs (M.gr L) a ∈ allTags := fun a ha => tgs_ok gL ha
  have kok : ∀ n, KOk (· < L.length) (lv (M.fld (M.gr L)) n) := fun n => KOk.lv gf gL.pos n
  have tok : ∀ n, KOk (· ∈ allTags) (tagAll (tgs (M.gr L)) (M.fld (M.gr L)) n) := fun n => KOk.tagAll gf gL.pos gt n
  have tl : ∀ {m : List (Str × Int)}, KOk (· ∈ allTags) m → m.length ≤ 13 := fun h => h.lenL
  refine ⟨⟨by show -(2 ^ 62) ≤ ((depth : Int) + 1); omega, by show ((depth : Int) + 1) < 2 ^ 62; omega⟩, ?_⟩
  have en : (((depth : Nat) : Int) + 1).toNat = depth + 1 := by omega
  rw [en]
  refine ⟨fun i σ H => ∃ pc x5 x6 x7 x8 x9 xa xb, σ = [some (sheetD rows), some (nD depth), some (sheetD L), some (.ref pc), some (.ref pf), x5, x6, x7, x8, x9, xa, xb] ∧ Sx no G1 H ∧ G1 pc = none ∧ pc ≠ pf ∧ H pc = some (cD (lv (M.fld (M.gr L)) i)) ∧ H pf = some (sD (tagAll (tgs (M.gr L)) (M.fld (M.gr L)) i)) ∧ i ≤ depth + 1,
    fin.of ⟨pc, _, _, _, _, _, _, _, rfl, s3.trans s4, hpc, nef, s4 pc _ id e3, e4, Nat.zero_le _⟩, fun _ _ _ _ => trivial, fun i d σ H hdd ⟨pc, x5, x6, x7, x8, x9, xa, xb, hσ, sH, gpc, nef, epc, epf, _⟩ => ?_, fun σ H ⟨pc, x5, x6, x7, x8, x9, xa, xb, hσ, sH, gpc, nef, epc, epf, hi⟩ => ?_⟩
  · subst hσ
    obtain ⟨hi, rfl⟩ := rng_get hdd
    repeat infer_instance
    refine new_run fun pu H3 hpu s5 epu _ => ?_
    repeat infer_instance
    have epc3 := s5 _ _ id epc
    have epf3 := s5 _ _ id epf
    have sH3 := sH.trans s5
    have gpu : G1 pu = none := sH.bk hpu
    have nuc : pu ≠ pc := by rintro rfl; rw [epc] at hpu; cases hpu
    have nuf : pu ≠ pf := by rintro rfl; rw [epf] at hpu; cases hpu
    refine x_lock epc3 ?_
    have sB : Sx no G1 (gup H3 pc (cR (lv (M.fld (M.gr L)) i))) := sH3.gup gpc
    have ecB : gup H3 pc (cR (lv (M.fld (M.gr L)) i)) pc = _ := gup_same
    have efB : gup H3 pc (cR (lv (M.fld (M.gr L)) i)) pf = _ := (gup_ne (Ne.symm nef)).trans epf3
    have euB : gup H3 pc (cR (lv (M.fld (M.gr L)) i)) pu = some (cD []) := (gup_ne nuc).trans epu
    generalize gup H3 pc (cR (lv (M.fld (M.gr L)) i)) = B at sB ecB efB euB ⊢
    repeat infer_instance
    refine e_rdcK ecB (kd_nat _) ?_
    refine ⟨fun j σ K => ∃ acc tac x7 x8 x9 xa xb, σ = [some (sheetD rows), some (nD depth), some (sheetD L), some (.ref pc), some (.ref pf), some (nD i), some (.ref pu), x7, x8, x9, xa, xb] ∧ Sx no G1 K ∧ K pc = some (cR (lv (M.fld (M.gr L)) i)) ∧ K pf = some (sD tac) ∧ K pu = some (cD acc) ∧ KOk (· < L.length) acc ∧ KOk (· ∈ allTags) tac ∧
        ((lv (M.fld (M.gr L)) i).drop j).foldl (fun acc x => addAll acc (M.fld (M.gr L) x.1) x.2) acc = lv (M.fld (M.gr L)) (i + 1) ∧ tagLv (tgs (M.gr L)) tac ((lv (M.fld (M.gr L)) i).drop j) = tagAll (tgs (M.gr L)) (M.fld (M.gr L)) (i + 1),
      fin.of ⟨[], tagAll (tgs (M.gr L)) (M.fld (M.gr L)) i, _, _, _, _, _, rfl, sB, ecB, efB, euB, .nil, tok i, rfl, rfl⟩, fun _ _ _ _ => trivial, fun j d σ K hd2 ⟨acc, tac, x7, x8, x9, xa, xb, hσ, sK, ec, ef, eu, ok, okt, hrun, hrt⟩ => ?_, fun σ K ⟨acc, tac, x7, x8, x9, xa, xb, hσ, sK, ec, ef, eu, ok, okt, hrun, hrt⟩ => ?_⟩
    · subst hσ
      obtain ⟨x, hx, rfl⟩ := items_get hd2
      have hxl := (kok i).mem x (List.mem_of_getElem? hx)
      obtain ⟨t, fs, er, hfs, hf8⟩ := gL.row hxl
      have hfl : M.fld (M.gr L) x.1 = fs := M.fld_of er
      have htg : tgs (M.gr L) x.1 = t := tgs_of er
      have hto : t ∈ allTags := gL.tag _ _ _ er
      rw [drop_get hx, List.foldl_cons] at hrun
      rw [drop_get hx] at hrt
      have hrt : tagLv (tgs (M.gr L)) (addK tac t x.2) ((lv (M.fld (M.gr L)) i).drop (j + 1)) = tagAll (tgs (M.gr L)) (M.fld (M.gr L)) (i + 1) := by
        rw [← htg]
        exact hrt
      repeat infer_instance
      refine sheet_ix er ?_
      repeat infer_instance
      refine ⟨t_dic (.inl ef), ?_⟩
      repeat infer_instance
      refine get_sD ef ?_
      repeat infer_instance
      refine e_addI ?_
      repeat infer_instance
      refine e_setD ef (kd_fits key_str _ t) (by rw [kd_len]; exact szl (by have := tl okt; omega)) ?_
      rw [kd_put key_str]
      have sK1 : Sx no G1 (gup K pf (sD (addK tac t x.2))) := sK.gup gpf
      have ec1 : gup K pf (sD (addK tac t x.2)) pc = _ := (gup_ne nef).trans ec
      have ef1 : gup K pf (sD (addK tac t x.2)) pf = _ := gup_same
      have eu1 : gup K pf (sD (addK tac t x.2)) pu = _ := (gup_ne nuf).trans eu
      have okt1 := okt.add hto x.2
      generalize hgk : gup K pf (sD (addK tac t x.2)) = K1 at sK1 ec1 ef1 eu1
      rw [show gup K pf (.dic (kd D.str D.int (aput tac t ((aget tac t).getD 0 + x.2)))) = K1 from hgk]
      repeat infer_instance
      refine i_tup ?_
      refine ⟨fun z σ K => ∃ acc2 xb, σ = [some (sheetD rows), some (nD depth), some (sheetD L), some (.ref pc), some (.ref pf), some (nD i), some (.ref pu), some (nD x.1), some (.int x.2), some (.str t), some (.tup (il fs)), xb] ∧ Sx no G1 K ∧ K pc = some (cR (lv (M.fld (M.gr L)) i)) ∧ K pf = some (sD (addK tac t x.2)) ∧ K pu = some (cD acc2) ∧ KOk (· < L.length) acc2 ∧ (fs.drop z).foldl (fun m k => addK m k x.2) acc2 = addAll acc fs x.2,
        fin.of ⟨acc, _, rfl, sK1, ec1, ef1, eu1, ok, rfl⟩, fun _ _ _ _ => trivial, fun z d σ K hd3 ⟨acc2, xb, hσ, sK, ec, ef, eu, ok, hrun2⟩ => ?_, fun σ K ⟨acc2, xb, hσ, sK, ec, ef, eu, ok, hrun2⟩ => ?_⟩
      · subst hσ
        obtain ⟨y, hy, rfl⟩ := il_gev hd3
        rw [drop_get hy, List.foldl_cons] at hrun2
        have ol := ok.len
        repeat infer_instance
        refine ⟨t_dic (.inl eu), ?_⟩
        repeat infer_instance
        refine get_cD eu ?_
        repeat infer_instance
        refine e_addI ?_
        repeat infer_instance
        refine e_setD eu (kd_fits key_nat _ y) (by rw [kd_len]; exact szl (by omega)) ?_
        rw [kd_put key_nat]
        exact fin.of ⟨addK acc2 y x.2, _, rfl, sK.gup gpu, (gup_ne (Ne.symm nuc)).trans ec, (gup_ne (Ne.symm nuf)).trans ef, gup_same, ok.add (hfs y (List.mem_of_getElem? hy)) x.2, hrun2⟩
      · subst hσ
        rw [List.length_map, List.drop_length] at hrun2
        have hrun2 : acc2 = addAll acc fs x.2 := hrun2
        subst hrun2
        refine fin.of ⟨addAll acc fs x.2, _, _, _, _, _, _, rfl, sK, ec, ef, eu, ok, okt1, ?_, hrt⟩
        rw [hfl] at hrun
        exact hrun
    · subst hσ
      rw [List.length_map, kd_len, List.drop_length] at hrun hrt
      have hrun : acc = lv (M.fld (M.gr L)) (i + 1) := hrun
      have hrt : tac = tagAll (tgs (M.gr L)) (M.fld (M.gr L)) (i + 1) := hrt
      subst hrun hrt
      refine ⟨ec, ?_⟩
      have sK2 : Sx no G1 (gup K pc (cD (lv (M.fld (M.gr L)) i))) := sK.gup gpc
      have ef2 : gup K pc (cD (lv (M.fld (M.gr L)) i)) pf = _ := (gup_ne (Ne.symm nef)).trans ef
      have eu2 : gup K pc (cD (lv (M.fld (M.gr L)) i)) pu = _ := (gup_ne nuc).trans eu
      generalize gup K pc (cD (lv (M.fld (M.gr L)) i)) = K2 at sK2 ef2 eu2 ⊢
      repeat infer_instance
      exact fin.of ⟨pu, _, _, _, _, _, _, _, rfl, sK2, gpu, nuf, eu2, ef2, by omega⟩
  · subst hσ
    rw [List.length_map, List.length_range] at epf
    repeat infer_instance
    refine e_dicK epf (kd_str _) ⟨pairs_sort _, fun rs hrs _ _ => new_run fun pz H5 hpz s6 epz _ => ?_⟩
    repeat infer_instance
    subst hrs
    exact e_tuple (.inl epz) (fin.of (k L H5 ((s1.trans sH).trans s6) hL))
end
end DL.K81
/-! Q1: the deck: some number below many, an item of a list, some items of a list in some order. -/
namespace DL.K81
open PySem PySem.Spec PyProof.Rows L2 DL
local macro_rules
  | `(tactic| infer_instance) => `(tactic| first
    | with_reducible refine x_seq ?_
    | with_reducible refine x_asgN ?_
    | with_reducible refine x_asg ?_
    | with_reducible refine x_drop ?_
    | with_reducible refine x_ret ?_
    | with_reducible refine x_if ?_
    | with_reducible refine x_par ?_
    | with_reducible refine x_par3 ?_
    | with_reducible refine x_next ?_
    | with_reducible refine x_break ?_
    | with_reducible refine x_cont ?_
    | ((with_reducible refine x_var ?_); refine look rfl ?_)
    | with_reducible refine x_c ?_
    | with_reducible refine x_op ?_
    | with_reducible refine x_un ?_
    | with_reducible refine x_nil ?_
    | with_reducible refine x_cons ?_
    | with_reducible refine x_star ?_
    | with_reducible refine x_cb ?_
    | with_reducible refine x_bm ?_
    | with_reducible refine x_call ?_
    | with_reducible refine x_callK ?_
    | with_reducible refine x_tup ?_
    | with_reducible refine x_lst ?_
    | with_reducible refine x_newD ?_
    | with_reducible refine x_test ?_
    | with_reducible refine x_not ?_
    | with_reducible refine x_and ?_
    | with_reducible refine x_or ?_
    | with_reducible refine x_ifE ?_
    | with_reducible refine x_notV ?_
    | with_reducible refine x_yes ?_
    | with_reducible refine x_gname ?_
    | with_reducible refine x_gnil ?_
    | with_reducible refine x_gcons ?_
    | with_reducible refine x_gtup rfl ?_
    | with_reducible refine x_gsub ?_
    | with_reducible refine x_it ?_
    | with_reducible refine x_range1 ?_
    | with_reducible refine x_enum ?_
    | with_reducible refine x_lc ?_
    | with_reducible refine x_dc ?_
    | with_reducible refine x_for ?_
    | with_reducible refine e_rev ?_
    | with_reducible refine x_arg1 ?_
    | with_reducible refine x_arg2 ?_
    | with_reducible refine x_arg3 ?_
    | with_reducible refine x_isB ?_
    | with_reducible refine x_isI ?_
    | with_reducible refine x_items ?_
    | with_reducible refine x_values ?_
    | with_reducible refine x_keys ?_
    | with_reducible refine x_listV ?_
    | with_reducible refine x_sumV ?_
    | with_reducible refine x_listItems ?_
    | with_reducible refine x_sortItems ?_
    | with_reducible refine x_zipL ?_
    | with_reducible refine x_lenSetI ?_
    | with_reducible refine x_sortSet ?_
    | with_reducible refine x_isI' ?_
    | with_reducible refine x_dpN ?_
    | with_reducible refine x_dpC ?_
    | with_reducible refine x_slice ?_
    | with_reducible refine x_noPart ?_
    | with_reducible refine x_part ?_
    | with_reducible refine x_listR2 ?_
    | with_reducible refine x_range2 ?_
    | ((with_reducible refine x_augI ?_); refine augK rfl ?_))
section
abbrev Dk (a c : Addr) : Fp := fun b => b = a ∨ b = c
def DkJ (a c : Addr) (G : Gp) : Prop := a ≠ c ∧ ∃ (m n : Int) (zs : List Int), G a = some (.dic (deckK c m n)) ∧ G c = some (.lst (zs.map .int)) ∧ zs.length ≤ 63
theorem dkFr {a c : Addr} : Fr (Dk a c) (DkJ a c) where
  ex := fun G b ⟨_, m, n, zs, h1, h2, _⟩ hb => by
    rcases hb with rfl | rfl
    · rw [h1]; simp
    · rw [h2]; simp
  st := fun G b mo ⟨hac, m, n, zs, h1, h2, h3⟩ hb => ⟨hac, m, n, zs, by rw [gup_ne (fun e => hb (.inl e.symm))]; exact h1, by rw [gup_ne (fun e => hb (.inr e.symm))]; exact h2, h3⟩
theorem DkJ.mono {a c : Addr} {G G' : Gp} (h : DkJ a c G) (s : Sx no G G') : DkJ a c G' := let ⟨hac, m, n, zs, h1, h2, h3⟩ := h; ⟨hac, m, n, zs, s _ _ id h1, s _ _ id h2, h3⟩
theorem DkJ.ne {a c : Addr} {G : Gp} (h : DkJ a c G) {p : Addr} (hp : G p = none) : ¬ Dk a c p := dkFr.fresh h hp
def SDdraw : SpD := fun ds G q => ∃ (a c : Addr) (many : Nat), ds = [.ref a, nD many] ∧ DkJ a c G ∧ 0 < many ∧ many < 2 ^ 59 ∧ ∀ (r : Nat) G', Sx (Dk a c) G G' → DkJ a c G' → r < many → q (nD r) G'
theorem rdDdraw (ds : List D) (G : Gp) (q : QD) (h : SDdraw ds G q) : tLdraw { nx := fun _ G' => fin (q .non) G', rt := fun d G' => fin (q d) G' } (startD NLdraw ds) G := by
  obtain ⟨a, c, many, rfl, ⟨hac, m, n, zs, h1, h2, h3⟩, hm, hm2, k⟩ := h
  refine rdLdraw _ G q ⟨a, c, m, n, (many : Int), zs, rfl, hac, h1, h2, h3, by omega, by omega, fun r zs' r0 r1 hl => ?_⟩
  have e : (D.int r) = nD r.toNat := by
    unfold nD
    congr 1
    omega
  rw [e]
  refine k r.toNat _ ?_ ⟨hac, m, n + 1, zs', ?_, gup_same, by omega⟩ (by omega)
  · exact (Sx.refl.gupE (.inl rfl)).gupE (.inr rfl)
  · rw [gup_ne hac]
    exact gup_same
def SDpick : SpD := fun ds G q => ∃ (a c b : Addr) (xs : List D), ds = [.ref a, .ref b] ∧ DkJ a c G ∧ ¬ Dk a c b ∧ G b = some (.lst xs) ∧ xs ≠ [] ∧ xs.length < 2 ^ 59 ∧ ∀ v G', v ∈ xs → Sx (Dk a c) G G' → DkJ a c G' → q v G'
theorem rdDpick (ds : List D) (G : Gp) (q : QD) (h : SDpick ds G q) : tLpick SDdraw { nx := fun _ G' => fin (q .non) G', rt := fun d G' => fin (q d) G' } (startD NLpick ds) G := by
  obtain ⟨a, c, b, xs, rfl, hj, hb, eb, hx, hx2, k⟩ := h
  unfold tLpick
  repeat infer_instance
  refine e_len (.inl eb) ?_
  repeat infer_instance
  refine ⟨a, c, xs.length, rfl, hj, List.length_pos_iff.mpr hx, hx2, fun r G1 s1 j1 hr => ?_⟩
  exact e_ixL (.inl (s1 b _ hb eb)) (atI_nat (List.getElem?_eq_getElem hr)) (fin.of (k _ G1 (List.getElem_mem hr) s1 j1))
theorem e_popAt {G : Gp} {a : Addr} {ds : List D} {r : Nat} {z : D} {q : QD} (h : G a = some (.lst ds)) (hz : ds[r]? = some z) (hl : ds.length < 2 ^ 60) (k : q z (gup G a (.lst (ds.eraseIdx r)))) : rPopAtD (.ref a) [nD r] G q := by
  have hr := (List.getElem?_eq_some_iff.mp hz).1
  show (match G a with
    | some (.lst ds) => (-(2 ^ 63) ≤ (r : Int) ∧ (r : Int) < 2 ^ 63) ∧ optK (seqIndex? (r : Int) ds.length) fun k => optK ds[k]? fun z => q z (gup G a (.lst (ds.eraseIdx k)))
    | _ => False)
  rw [h]
  refine ⟨⟨by omega, by omega⟩, ?_⟩
  have e : seqIndex? (r : Int) ds.length = some r := by
    have e0 : (if (r : Int) < 0 then (r : Int) + (ds.length : Int) else (r : Int)) = r := if_neg (by omega)
    unfold seqIndex?
    simp only [e0]
    rw [if_pos (by rw [Bool.and_eq_true, decide_eq_true_eq, decide_eq_true_eq]; omega)]
    rfl
  rw [e]
  show optK ds[r]? _
  rw [hz]
  exact k
theorem erase_perm {α : Type} : ∀ {l : List α} {i : Nat} {x : α}, l[i]? = some x → (x :: l.eraseIdx i).Perm l
  | [], i, x, h => by simp at h
  | y :: l, 0, x, h => by
    have : y = x := by simpa using h
    subst this
    exact List.Perm.refl _
  | y :: l, i + 1, x, h => by
    have ih := erase_perm (l := l) (i := i) (x := x) (by simpa using h)
    show (x :: y :: l.eraseIdx i).Perm (y :: l)
    exact (List.Perm.swap y x _).trans (ih.cons y)
def SDsome : SpD := fun ds G q => ∃ (a c b : Addr) (many : Nat) (xs : List D), ds = [.ref a, .ref b, nD many] ∧ DkJ a c G ∧ ¬ Dk a c b ∧ G b = some (.lst xs) ∧ xs.length < 2 ^ 20 ∧ ∀ p ys rest G', G p = none → G' p = some (.lst ys) → (ys ++ rest).Perm xs → ys.length = min many xs.length → Sx (Dk a c) G G' → DkJ a c G' → q (.ref p) G'
theorem rdDsome (ds : List D) (G : Gp) (q : QD) (h : SDsome ds G q) : tLsome SDdraw { nx := fun _ G' => fin (q .non) G', rt := fun d G' => fin (q d) G' } (startD NLsome ds) G := by
  obtain ⟨a, c, b, many, xs, rfl, hj, hb, eb, hx, k⟩ := h
  unfold tLsome
  repeat infer_instance
  refine e_list (.inl eb) (new_run fun al G1 hal s1 el _ => ?_)
  repeat infer_instance
  refine e_len (.inl el) ?_
  repeat infer_instance
  have j1 := hj.mono s1
  have nal : ¬ Dk a c al := hj.ne hal
  show (-(2 ^ 62) ≤ (if (xs.length : Int) < (many : Int) then (xs.length : Int) else (many : Int)) ∧ (if (xs.length : Int) < (many : Int) then (xs.length : Int) else (many : Int)) < 2 ^ 62) ∧ _
  have em : (if (xs.length : Int) < (many : Int) then (xs.length : Int) else (many : Int)) = ((min many xs.length : Nat) : Int) := by
    split <;> omega
  rw [em]
  refine ⟨⟨by omega, by omega⟩, ?_⟩
  have en : ((min many xs.length : Nat) : Int).toNat = min many xs.length := by omega
  rw [en]
  intro p hp
  have np : ¬ Dk a c p := j1.ne hp
  have npl : p ≠ al := by rintro rfl; rw [el] at hp; cases hp
  refine ⟨fun i acc H => Sx (Dk a c) G (gup H p (.lst acc)) ∧ DkJ a c (gup H p (.lst acc)) ∧ acc.length = i ∧ ∃ rest, H al = some (.lst rest) ∧ (acc ++ rest).Perm xs,
    ⟨(s1.of.gup (s1.bk hp)), dkFr.st _ _ _ j1 np, rfl, xs, el, List.Perm.refl _⟩, fun _ _ _ _ => trivial, fun i d acc H hd ⟨w1, w2, w3, rest, w4, w5⟩ => ?_, fun acc H ⟨w1, w2, w3, rest, w4, w5⟩ => ?_⟩
  · rw [List.getElem?_map] at hd
    obtain ⟨i', hi', rfl⟩ := Option.map_eq_some_iff.mp hd
    have hil := (List.getElem?_eq_some_iff.mp hi').1
    rw [List.length_range] at hil
    refine atPat_mk rfl ?_
    repeat infer_instance
    rw [if_pos rfl]
    have hpl := w5.length_eq
    rw [List.length_append] at hpl
    have e4 : gup H p (.lst acc) al = some (.lst rest) := (gup_ne (Ne.symm npl)).trans w4
    have e5 : gup H p (.lst acc) p = some (.lst acc) := gup_same
    generalize gup H p (.lst acc) = H1 at w1 w2 e4 e5 ⊢
    repeat infer_instance
    refine ⟨t_lst (.inl e4), ?_⟩
    repeat infer_instance
    refine e_len (.inl e4) ?_
    repeat infer_instance
    refine ⟨a, c, rest.length, rfl, w2, by omega, by omega, fun r H2 s2 j2 hr => ?_⟩
    repeat infer_instance
    have e6 := s2 al _ nal e4
    have e7 := s2 p _ np e5
    refine e_popAt e6 (List.getElem?_eq_getElem hr) (by omega) ?_
    refine ⟨(gup_ne npl).trans e7, by rw [sizeLine_eq, w3]; omega, _, Sub.refl, ?_, ?_, by rw [List.length_append, w3]; rfl, rest.eraseIdx r, ?_, ?_⟩
    · exact (((w1.trans s2).gup hal)).gup (s1.bk hp)
    · exact dkFr.st _ _ _ (dkFr.st _ _ _ j2 nal) np
    · exact gup_same
    · rw [List.append_assoc]
      exact ((erase_perm (List.getElem?_eq_getElem hr)).append_left acc).trans w5
  · have hl : acc.length = min many xs.length := by
      rw [w3, List.length_map, List.length_range]
    exact fin.of (k p acc rest _ (s1.bk hp) gup_same w5 hl w1 w2)
end
end DL.K81
/-! Q2: the deck of a script; tags, signatures. -/
namespace DL.K81
open PySem PySem.Spec PyProof.Rows L2 DL
open PySem.W (dataLe)
local macro_rules
  | `(tactic| infer_instance) => `(tactic| first
    | with_reducible refine x_seq ?_
    | with_reducible refine x_asgN ?_
    | with_reducible refine x_asg ?_
    | with_reducible refine x_drop ?_
    | with_reducible refine x_ret ?_
    | with_reducible refine x_if ?_
    | with_reducible refine x_par ?_
    | with_reducible refine x_par3 ?_
    | with_reducible refine x_next ?_
    | with_reducible refine x_break ?_
    | with_reducible refine x_cont ?_
    | ((with_reducible refine x_var ?_); refine look rfl ?_)
    | with_reducible refine x_c ?_
    | with_reducible refine x_op ?_
    | with_reducible refine x_un ?_
    | with_reducible refine x_nil ?_
    | with_reducible refine x_cons ?_
    | with_reducible refine x_star ?_
    | with_reducible refine x_cb ?_
    | with_reducible refine x_bm ?_
    | with_reducible refine x_call ?_
    | with_reducible refine x_callK ?_
    | with_reducible refine x_tup ?_
    | with_reducible refine x_lst ?_
    | with_reducible refine x_newD ?_
    | with_reducible refine x_test ?_
    | with_reducible refine x_not ?_
    | with_reducible refine x_and ?_
    | with_reducible refine x_or ?_
    | with_reducible refine x_ifE ?_
    | with_reducible refine x_notV ?_
    | with_reducible refine x_yes ?_
    | with_reducible refine x_gname ?_
    | with_reducible refine x_gnil ?_
    | with_reducible refine x_gcons ?_
    | with_reducible refine x_gtup rfl ?_
    | with_reducible refine x_gsub ?_
    | with_reducible refine x_it ?_
    | with_reducible refine x_range1 ?_
    | with_reducible refine x_enum ?_
    | with_reducible refine x_lc ?_
    | with_reducible refine x_dc ?_
    | with_reducible refine x_for ?_
    | with_reducible refine e_rev ?_
    | with_reducible refine x_arg1 ?_
    | with_reducible refine x_arg2 ?_
    | with_reducible refine x_arg3 ?_
    | with_reducible refine x_isB ?_
    | with_reducible refine x_isI ?_
    | with_reducible refine x_items ?_
    | with_reducible refine x_values ?_
    | with_reducible refine x_keys ?_
    | with_reducible refine x_listV ?_
    | with_reducible refine x_sumV ?_
    | with_reducible refine x_listItems ?_
    | with_reducible refine x_sortItems ?_
    | with_reducible refine x_zipL ?_
    | with_reducible refine x_lenSetI ?_
    | with_reducible refine x_sortSet ?_
    | with_reducible refine x_isI' ?_
    | with_reducible refine x_dpN ?_
    | with_reducible refine x_dpC ?_
    | with_reducible refine x_slice ?_
    | with_reducible refine x_noPart ?_
    | with_reducible refine x_part ?_
    | with_reducible refine x_listR2 ?_
    | with_reducible refine x_range2 ?_
    | ((with_reducible refine x_augI ?_); refine augK rfl ?_))
section
theorem e_modI {G : Gp} {i j : Int} {q : QD} (h : 0 < j) (k : q (.int (i % j)) G) : rModI (.int i) (.int j) G q := ⟨h, k⟩
theorem e_int {G : Gp} {i : Int} {q : QD} (k : q (.int i) G) : rInt [.int i] G q := k
theorem cut_map {α β : Type} (f : α → β) (xs : List α) (lo hi : Option Int) : cutL (xs.map f) lo hi = (cutL xs lo hi).map f := by
  unfold cutL
  rw [List.length_map, List.map_take, List.map_drop]
theorem cut63 {α : Type} (xs : List α) : (cutL xs none (some 63)).length ≤ 63 := by
  unfold cutL
  rw [List.length_take]
  have : HT.sIx xs.length xs.length (some 63) ≤ 63 := by
    rw [show (63 : Int) = ((63 : Nat) : Int) from rfl, HT.sIx_nat]
    omega
  omega
theorem e_slL {G : Gp} {a : Addr} {ds : List D} {lo hi : Option Int} {q : QD} (h : ListAt G a ds) (k : newO (.lst (cutL ds lo hi)) q G) : rSl (.ref a) lo hi G q := by
  show (match G a with
    | some (.lst ds) => newO (.lst (cutL ds lo hi)) q G
    | some (.rol ds) => newO (.lst (cutL ds lo hi)) q G
    | _ => False)
  rcases h with h | h <;> rw [h] <;> exact k
def SDdeck : SpD := fun ds G q => ∃ (s : Addr) (zs : List Int), ds = [.ref s] ∧ ListAt G s (zs.map D.int) ∧ ∀ a c G', G a = none → G c = none → Sx no G G' → DkJ a c G' → q (.ref a) G'
theorem rdDdeck (ds : List D) (G : Gp) (q : QD) (h : SDdeck ds G q) : tLdeck { nx := fun _ G' => fin (q .non) G', rt := fun d G' => fin (q d) G' } (startD NLdeck ds) G := by
  obtain ⟨s, zs, rfl, hs, k⟩ := h
  have la : ∀ {G'}, Sx no G G' → ListAt G' s (zs.map D.int) := fun {G'} sx => by
    rcases hs with h | h
    · exact .inl (sx _ _ id h)
    · exact .inr (sx _ _ id h)
  unfold tLdeck
  repeat infer_instance
  refine e_slL hs (new_run fun p G1 hp s1 e1 _ => ?_)
  rw [cut_map] at e1
  refine i_lst e1 ?_
  refine ⟨fun i σ H => ∃ (seed : Int) (x2 : Option D), σ = [some (.ref s), some (.int seed), x2] ∧ Sx no G H ∧ 0 ≤ seed ∧ seed < 2 ^ 32 ∧ H p = some (.lst ((cutL zs none (some 63)).map D.int)), fin.of ⟨20132081, _, rfl, s1, by decide, by decide, e1⟩, fun i σ H ⟨_, _, _, sH, _, _, e⟩ => .inl e, fun i d σ H hd ⟨seed, x2, hσ, sH, b0, b1, eH⟩ => ?_, fun σ H ⟨seed, x2, hσ, sH, b0, b1, eH⟩ => ?_⟩
  · subst hσ
    rw [List.getElem?_map] at hd
    obtain ⟨z, hz, rfl⟩ := Option.map_eq_some_iff.mp hd
    repeat infer_instance
    refine e_mulI (.inl ⟨by omega, by omega⟩) ?_
    repeat infer_instance
    refine e_int ?_
    repeat infer_instance
    refine e_modI (by decide) ?_
    refine e_addI ?_
    repeat infer_instance
    refine e_addI ?_
    repeat infer_instance
    refine e_int ?_
    repeat infer_instance
    refine e_modI (by decide) ?_
    have c1 := Int.emod_nonneg (seed * 48271 + z % 2147483629 + 11) (by decide : (2147483587 : Int) ≠ 0)
    have c2 := Int.emod_lt_of_pos (seed * 48271 + z % 2147483629 + 11) (by decide : (0 : Int) < 2147483587)
    exact fin.of ⟨_, _, rfl, sH, c1, by omega, eH⟩
  · subst hσ
    repeat infer_instance
    refine x_disp fun a ha => ?_
    have s2 : Sx no G (gup H a (.dic [])) := sH.gup (sH.bk ha)
    have e2 : gup H a (.dic []) a = some (.dic []) := gup_same
    generalize gup H a (.dic []) = H2 at s2 e2 ⊢
    repeat infer_instance
    refine e_slL (la s2) (new_run fun p3 H3 hp3 s3 e3 _ => ?_)
    repeat infer_instance
    refine e_list (.inl e3) (new_run fun p4 H4 hp4 s4 e4 _ => ?_)
    refine e_revL e4 (new_run fun c H5 hc s5 e5 _ => ?_)
    repeat infer_instance
    have e25 := s5 a _ id (s4 a _ id (s3 a _ id e2))
    have hac : a ≠ c := by
      rintro rfl
      rw [s4 a _ id (s3 a _ id e2)] at hc
      cases hc
    refine ⟨e25, fun p hp => ?_, by simp, ?_⟩
    · simp only [List.mem_cons, List.not_mem_nil, or_false] at hp
      rcases hp with rfl | rfl | rfl
      · exact ⟨.inr "cells", rfl⟩
      · exact ⟨.inr "mixed", rfl⟩
      · exact ⟨.inr "draws", rfl⟩
    · have ha0 : G a = none := sH.bk ha
      have sT := ((s2.trans s3).trans s4).trans s5
      refine fin.of (k a c _ ha0 (((s2.trans s3).trans s4).bk hc) (sT.gup ha0) ⟨hac, seed, 0, (cutL zs none (some 63)).reverse, gup_same, ?_, ?_⟩)
      · rw [gup_ne (Ne.symm hac), e5, cut_map, List.map_reverse]
      · rw [List.length_reverse]
        exact cut63 zs
/-! ### signatures -/
abbrev Sign := List (Str × Nat)
abbrev sgD (x : Str × Nat) : D := .tup [.str x.1, nD x.2]
def voidS : Sign := [("void", 0)]
theorem e_listT {G : Gp} {ds : List D} {q : QD} (k : newO (.lst ds) q G) : rList [.tup ds] G q := k
def signD (s : Sign) : D := .tup (s.map sgD)
structure SignOk (s : Sign) : Prop where
  pos : 0 < s.length
  le : s.length ≤ 20
  tag : ∀ x ∈ s, TagOk x.1
  few : ∀ x ∈ s, x.2 ≤ 3
theorem perm_map {α β : Type} {f : α → β} {ys zs : List β} (h : ys.Perm zs) : ∀ {xs : List α}, zs = xs.map f → ∃ xs' : List α, ys = xs'.map f ∧ xs'.Perm xs := by
  induction h with
  | nil =>
    intro xs e
    cases xs with
    | nil => exact ⟨[], rfl, .nil⟩
    | cons _ _ => cases e
  | cons y _ ih =>
    intro xs e
    cases xs with
    | nil => cases e
    | cons x xs =>
      rw [List.map_cons] at e
      injection e with e1 e2
      obtain ⟨xs', h1, h2⟩ := ih e2
      exact ⟨x :: xs', by rw [List.map_cons, h1, e1], h2.cons x⟩
  | swap y z _ =>
    intro xs e
    match xs, e with
    | [], e => cases e
    | [x], e => simp at e
    | x :: x2 :: xs, e =>
      rw [List.map_cons, List.map_cons] at e
      injection e with e1 e2
      injection e2 with e2 e3
      exact ⟨x2 :: x :: xs, by rw [List.map_cons, List.map_cons, e1, e2, e3], .swap x x2 xs⟩
  | trans _ _ ih1 ih2 =>
    intro xs e
    obtain ⟨xs', h1, h2⟩ := ih2 e
    obtain ⟨xs'', h3, h4⟩ := ih1 h1
    exact ⟨xs'', h3, h4.trans h2⟩
theorem sort_sg {ds : List D} (h : ∀ d ∈ ds, ∃ x : Str × Nat, d = sgD x) : SortD ds := sortD_si fun d hd => by
  obtain ⟨x, rfl⟩ := h d hd
  exact ⟨x.1, (x.2 : Int), rfl⟩
def SDtags : SpD := fun ds G q => ∃ s, ds = [signD s] ∧ SignOk s ∧ ∀ p (ts : Sign) G', G p = none → Sx no G G' → G' p = some (.lst (ts.map sgD)) → ts.Perm (s ++ voidS) → q (.ref p) G'
theorem rdDtags (ds : List D) (G : Gp) (q : QD) (h : SDtags ds G q) : tLtags { nx := fun _ G' => fin (q .non) G', rt := fun d G' => fin (q d) G' } (startD NLtags ds) G := by
  obtain ⟨s, rfl, hs, k⟩ := h
  have hle := hs.le
  unfold tLtags
  repeat infer_instance
  refine e_listT (new_run fun p1 G1 hp1 s1 e1 _ => ?_)
  repeat infer_instance
  refine ⟨sz (by simp), ?_⟩
  repeat infer_instance
  refine ⟨sz (by simp), new_run fun p2 G2 hp2 s2 e2 _ => ?_⟩
  have ne12 : p1 ≠ p2 := by rintro rfl; rw [e1] at hp2; cases hp2
  refine e_addL (s2 _ _ id e1) e2 (sz (by simp; omega)) (new_run fun p3 G3 hp3 s3 e3 _ => ?_)
  repeat infer_instance
  have em : s.map sgD ++ [D.tup [.str "void", .int 0]] = (s ++ voidS).map sgD := by
    rw [List.map_append]
    rfl
  rw [em] at e3
  refine x_arg1 (e_lisK (.inl e3) ⟨sort_sg fun d hd => ?_, fun rs _ hp _ => new_run fun p4 G4 hp4 s4 e4 _ => ?_⟩)
  · obtain ⟨x, _, rfl⟩ := List.mem_map.mp hd
    exact ⟨x, rfl⟩
  · obtain ⟨ts, rfl, hts⟩ := perm_map hp rfl
    have sT := ((s1.trans s2).trans s3).trans s4
    exact fin.of (k p4 ts G4 (((s1.trans s2).trans s3).bk hp4) sT e4 hts)
def SDsignature : SpD := fun ds G q => ∃ a c, ds = [.ref a, .int 4] ∧ DkJ a c G ∧ ∀ s G', Sx (Dk a c) G G' → DkJ a c G' → SignOk s → q (signD s) G'
theorem rdDsignature (ds : List D) (G : Gp) (q : QD) (h : SDsignature ds G q) : tLsignature SDdraw SDsome SDpick { nx := fun _ G' => fin (q .non) G', rt := fun d G' => fin (q d) G' } (startD NLsignature ds) G := by
  obtain ⟨a, c, rfl, hj, k⟩ := h
  unfold tLsignature
  repeat infer_instance
  refine ⟨sz (by simp), new_run fun p1 G1 hp1 s1 e1 _ => ?_⟩
  repeat infer_instance
  refine ⟨a, c, 4, rfl, hj.mono s1, by decide, by decide, fun r G2 s2 j2 hr => ?_⟩
  refine e_addI ?_
  repeat infer_instance
  have np1 : ¬ Dk a c p1 := hj.ne hp1
  refine ⟨a, c, p1, r + 1, _, by rw [show (1 : Int) + (r : Int) = ((r + 1 : Nat) : Int) from by omega]; rfl, j2, np1, s2 _ _ np1 e1, by simp, fun p2 ys rest G3 hp2 e2 hperm hlen s3 j3 => ?_⟩
  repeat infer_instance
  have np2 : ¬ Dk a c p2 := j2.ne hp2
  have hnames : ∀ y ∈ ys, ∃ t : Str, t ∈ allTags ∧ y = .str t := fun y hy => by
    have hm := hperm.mem_iff.mp (List.mem_append_left rest hy)
    simp only [List.mem_cons, List.not_mem_nil, or_false] at hm
    rcases hm with rfl | rfl | rfl | rfl | rfl | rfl | rfl | rfl | rfl | rfl | rfl | rfl <;> exact ⟨_, by decide, rfl⟩
  have hyl : ys.length = r + 1 := by
    rw [hlen]
    simp
    omega
  refine i_lst e2 ?_
  refine lc_map dkFr j3 (fun d v => ∃ t n, d = .str t ∧ t ∈ allTags ∧ n ≤ 3 ∧ v = sgD (t, n)) (fun G' s => .inl (s p2 _ np2 e2)) (szl (by omega)) (fun i d G4 hd s4 j4 => ⟨_, rfl, fun h hh => ?_⟩) fun p5 xs G5 hp5 s5 j5 e5 f5 => ?_
  · obtain ⟨t, ht, rfl⟩ := hnames d (List.mem_of_getElem? hd)
    repeat infer_instance
    refine ⟨sz (by simp), new_run fun p6 G6 hp6 s6 e6 _ => ?_⟩
    repeat infer_instance
    refine ⟨a, c, p6, _, rfl, j4.mono s6, j4.ne hp6, e6, by simp, by simp, fun v G7 hv s7 j7 => ?_⟩
    repeat infer_instance
    simp only [List.mem_cons, List.not_mem_nil, or_false] at hv
    refine ⟨sz (by simp), hh _ G7 (s6.of.trans s7) j7 ?_⟩
    rcases hv with rfl | rfl | rfl | rfl | rfl | rfl
    · exact ⟨t, 0, rfl, ht, by decide, rfl⟩
    · exact ⟨t, 0, rfl, ht, by decide, rfl⟩
    · exact ⟨t, 1, rfl, ht, by decide, rfl⟩
    · exact ⟨t, 2, rfl, ht, by decide, rfl⟩
    · exact ⟨t, 2, rfl, ht, by decide, rfl⟩
    · exact ⟨t, 3, rfl, ht, by decide, rfl⟩
  · repeat infer_instance
    have hx : ∃ s : Sign, xs = s.map sgD ∧ (∀ x ∈ s, TagOk x.1 ∧ x.2 ≤ 3) := by
      clear e5 hnames hperm hlen hyl e2
      induction f5 with
      | nil => exact ⟨[], rfl, by simp⟩
      | cons h _ ih =>
        obtain ⟨s, e, hs⟩ := ih
        obtain ⟨t, n, _, ht, hn, rfl⟩ := h
        refine ⟨(t, n) :: s, by rw [e]; rfl, fun x hx => ?_⟩
        rcases List.mem_cons.mp hx with rfl | hx
        · exact ⟨ht, hn⟩
        · exact hs x hx
    obtain ⟨s, rfl, hs⟩ := hx
    have hsl : s.length = r + 1 := by
      have := f5.len
      rw [List.length_map] at this
      omega
    refine x_arg1 (e_lisK (.inl e5) ⟨sort_sg fun d hd => ?_, fun rs _ hp _ => new_run fun p8 G8 hp8 s8 e8 _ => ?_⟩)
    · obtain ⟨x, _, rfl⟩ := List.mem_map.mp hd
      exact ⟨x, rfl⟩
    · repeat infer_instance
      obtain ⟨ts, rfl, hts⟩ := perm_map hp rfl
      have hl := hts.length_eq
      refine e_tuple (.inl e8) (fin.of (k ts G8 ((((s1.of.trans s2).trans s3).trans s5).trans s8.of) (j5.mono s8) ⟨by omega, by omega, fun x hx => (hs x (hts.mem_iff.mp hx)).1, fun x hx => (hs x (hts.mem_iff.mp hx)).2⟩))
end
end DL.K81
/-! Q3: drawn sheets. -/
namespace DL.K81
open PySem PySem.Spec PyProof.Rows L2 DL
local macro_rules
  | `(tactic| infer_instance) => `(tactic| first
    | with_reducible refine x_seq ?_
    | with_reducible refine x_asgN ?_
    | with_reducible refine x_asg ?_
    | with_reducible refine x_drop ?_
    | with_reducible refine x_ret ?_
    | with_reducible refine x_if ?_
    | with_reducible refine x_par ?_
    | with_reducible refine x_par3 ?_
    | with_reducible refine x_next ?_
    | with_reducible refine x_break ?_
    | with_reducible refine x_cont ?_
    | ((with_reducible refine x_var ?_); refine look rfl ?_)
    | with_reducible refine x_c ?_
    | with_reducible refine x_op ?_
    | with_reducible refine x_un ?_
    | with_reducible refine x_nil ?_
    | with_reducible refine x_cons ?_
    | with_reducible refine x_star ?_
    | with_reducible refine x_cb ?_
    | with_reducible refine x_bm ?_
    | with_reducible refine x_call ?_
    | with_reducible refine x_callK ?_
    | with_reducible refine x_tup ?_
    | with_reducible refine x_lst ?_
    | with_reducible refine x_newD ?_
    | with_reducible refine x_test ?_
    | with_reducible refine x_not ?_
    | with_reducible refine x_and ?_
    | with_reducible refine x_or ?_
    | with_reducible refine x_ifE ?_
    | with_reducible refine x_notV ?_
    | with_reducible refine x_yes ?_
    | with_reducible refine x_gname ?_
    | with_reducible refine x_gnil ?_
    | with_reducible refine x_gcons ?_
    | with_reducible refine x_gtup rfl ?_
    | with_reducible refine x_gsub ?_
    | with_reducible refine x_it ?_
    | with_reducible refine x_range1 ?_
    | with_reducible refine x_enum ?_
    | with_reducible refine x_lc ?_
    | with_reducible refine x_dc ?_
    | with_reducible refine x_for ?_
    | with_reducible refine e_rev ?_
    | with_reducible refine x_arg1 ?_
    | with_reducible refine x_arg2 ?_
    | with_reducible refine x_arg3 ?_
    | with_reducible refine x_isB ?_
    | with_reducible refine x_isI ?_
    | with_reducible refine x_items ?_
    | with_reducible refine x_values ?_
    | with_reducible refine x_keys ?_
    | with_reducible refine x_listV ?_
    | with_reducible refine x_sumV ?_
    | with_reducible refine x_listItems ?_
    | with_reducible refine x_sortItems ?_
    | with_reducible refine x_zipL ?_
    | with_reducible refine x_lenSetI ?_
    | with_reducible refine x_sortSet ?_
    | with_reducible refine x_isI' ?_
    | with_reducible refine x_dpN ?_
    | with_reducible refine x_dpC ?_
    | with_reducible refine x_slice ?_
    | with_reducible refine x_noPart ?_
    | with_reducible refine x_part ?_
    | with_reducible refine x_listR2 ?_
    | with_reducible refine x_range2 ?_
    | ((with_reducible refine x_augI ?_); refine augK rfl ?_))
section
theorem ite_cut {b : Bool} {t u : TSd} {E : Ed} {σ : Sd} {G : Gp} (P : Sd → Gp → Prop) (key : ∀ σ' G', P σ' G' → E.nx σ' G') (h : (∀ σ' G', P σ' G' → E.nx σ' G') → if b = true then t E σ G else u E σ G) : if b = true then t E σ G else u E σ G := h key
theorem e_gtI {G : Gp} {q : QD} {i j : Int} (k : q (.bl (decide (j < i))) G) : rGt (.int i) (.int j) G q := k
theorem e_mulL {G : Gp} {a : Addr} {ds : List D} {q : QD} (h : G a = some (.lst ds)) (hl : ds.length * 2 ≤ sizeLine) (k : newO (.lst (ds ++ ds)) q G) : rMul (.ref a) (.int 2) G q := by
  show (match G a with
    | some (.lst ds) => (-(2 ^ 63) ≤ (2 : Int) ∧ (2 : Int) < 2 ^ 63) ∧ ds.length * (2 : Int).toNat ≤ sizeLine ∧ newO (.lst (List.replicate (2 : Int).toNat ds).flatten) q G
    | _ => False)
  rw [h]
  refine ⟨by decide, hl, ?_⟩
  have : (List.replicate (2 : Int).toNat ds).flatten = ds ++ ds := by
    show (List.replicate 2 ds).flatten = _
    simp [List.replicate]
  rw [this]
  exact k
theorem nats_of {N : Nat} : ∀ {ds xs : List D}, F2 (fun _ v => ∃ n, n < N ∧ v = nD n) ds xs → ∃ fs : List Nat, xs = il fs ∧ ∀ f ∈ fs, f < N
  | _, _, .nil => ⟨[], rfl, by simp⟩
  | _, _, .cons ⟨n, hn, e⟩ t => by
    obtain ⟨fs, e2, hfs⟩ := nats_of t
    subst e e2
    refine ⟨n :: fs, rfl, fun x hx => ?_⟩
    rcases List.mem_cons.mp hx with rfl | hx
    · exact hn
    · exact hfs x hx
def SDdrawnsheet : SpD := fun ds G q => ∃ a c s most, ds = [.ref a, signD s, nD most] ∧ DkJ a c G ∧ SignOk s ∧ 0 < most ∧ most ≤ 30 ∧ ∀ rows G', Sx (Dk a c) G G' → DkJ a c G' → Good rows → rows.length ≤ most → q (sheetD rows) G'
theorem rdDdrawnsheet (ds : List D) (G : Gp) (q : QD) (h : SDdrawnsheet ds G q) : tLdrawnsheet SDdraw SDpick SDtags { nx := fun _ G' => fin (q .non) G', rt := fun d G' => fin (q d) G' } (startD NLdrawnsheet ds) G := by
  obtain ⟨a, c, s, most, rfl, hj, hs, hm0, hm, k⟩ := h
  unfold tLdrawnsheet
  repeat infer_instance
  refine ⟨a, c, most, rfl, hj, hm0, by omega, fun r G1 s1 j1 hr => ?_⟩
  refine e_addI ?_
  repeat infer_instance
  refine ⟨s, rfl, hs, fun pt ts G2 hpt s2 e2 hperm => ?_⟩
  have hmany : (1 : Int) + (r : Int) = ((r + 1 : Nat) : Int) := by omega
  rw [hmany]
  have j2 := j1.mono s2
  have npt : ¬ Dk a c pt := j1.ne hpt
  have s02 : Sx (Dk a c) G G2 := s1.trans s2.of
  have tok : ∀ x ∈ ts, TagOk x.1 ∧ x.2 ≤ 3 := fun x hx => by
    have := hperm.mem_iff.mp hx
    rcases List.mem_append.mp this with h | h
    · exact ⟨hs.tag x h, hs.few x h⟩
    · have : x = (("void" : Str), 0) := by simpa [voidS] using h
      rw [this]
      exact ⟨by decide, by decide⟩
  have tl : ts.length = s.length + 1 := by
    rw [hperm.length_eq, List.length_append]
    rfl
  have sp := hs.pos
  have sl := hs.le
  repeat infer_instance
  refine ⟨sz (by simp), ?_⟩
  repeat infer_instance
  refine ⟨a, c, 3, rfl, j2, by decide, by decide, fun r3 G3 s3 j3 _ => ?_⟩
  repeat infer_instance
  refine e_gtI ?_
  repeat infer_instance
  have e3 := s3 _ _ npt e2
  refine ite_cut (fun σ' H => ∃ (pt : Addr) (ts : Sign) (x5 x6 x7 x8 x9 x10 : Option D), σ' = [some (.ref a), some (signD s), some (nD most), some (nD (r + 1)), some (.ref pt), x5, x6, x7, x8, x9, x10] ∧ Sx (Dk a c) G H ∧ DkJ a c H ∧ ¬ Dk a c pt ∧ H pt = some (.lst (ts.map sgD)) ∧ ts ≠ [] ∧ ts.length ≤ 63 ∧ (∀ x ∈ ts, TagOk x.1 ∧ x.2 ≤ 3)) (fun σ' H ⟨pt, ts, x5, x6, x7, x8, x9, x10, hσ, sH, jH, npt, ept, tne, tl, tok⟩ => ?_) (fun key => ?_)
  · subst hσ
    repeat infer_instance
    refine ⟨Nat.zero_le _, new_run fun pr H1 hpr s4 epr _ => ?_⟩
    have j4 := jH.mono s4
    have npr : ¬ Dk a c pr := jH.ne hpr
    have gpr : G pr = none := sH.back npr hpr
    have ept4 := s4 _ _ id ept
    have ntr : pt ≠ pr := by rintro rfl; rw [ept] at hpr; cases hpr
    repeat infer_instance
    refine ⟨⟨by show -(2 ^ 62) ≤ (((r + 1 : Nat) : Int)); omega, by show (((r + 1 : Nat) : Int)) < 2 ^ 62; omega⟩, ?_⟩
    have en : (((r + 1 : Nat) : Int)).toNat = r + 1 := by omega
    rw [en]
    refine ⟨fun i σ H => ∃ (rows : Sheet) (x5 x7 x8 x9 x10 : Option D), σ = [some (.ref a), some (signD s), some (nD most), some (nD (r + 1)), some (.ref pt), x5, some (.ref pr), x7, x8, x9, x10] ∧ Sx (Dk a c) G H ∧ DkJ a c H ∧ H pt = some (.lst (ts.map sgD)) ∧ H pr = some (.lst (rows.map rowD)) ∧ rows.length = i ∧ ∀ x ∈ rows, TagOk x.1 ∧ x.2.length ≤ 8 ∧ ∀ f ∈ x.2, f < r + 1,
      fin.of ⟨[], _, _, _, _, _, rfl, sH.trans s4.of, j4, ept4, epr, rfl, by simp⟩, fun _ _ _ _ => trivial, fun i d σ H hd ⟨rows, x5, x7, x8, x9, x10, hσ, sH, jH, ept, epr, hl, hrows⟩ => ?_, fun σ H ⟨rows, x5, x7, x8, x9, x10, hσ, sH, jH, ept, epr, hl, hrows⟩ => ?_⟩
    · subst hσ
      obtain ⟨hi, rfl⟩ := rng_get hd
      repeat infer_instance
      refine ⟨a, c, pt, _, rfl, jH, npt, ept, by simpa using tne, by rw [List.length_map]; omega, fun v H5 hv s5 j5 => ?_⟩
      obtain ⟨x, hx, rfl⟩ := List.mem_map.mp hv
      obtain ⟨x1, x2⟩ := tok x hx
      have ept5 := s5 _ _ npt ept
      have epr5 := s5 _ _ npr epr
      repeat infer_instance
      refine ⟨t_lst (.inl epr5), ?_⟩
      repeat infer_instance
      refine ⟨⟨by show -(2 ^ 62) ≤ ((x.2 : Nat) : Int); omega, by show ((x.2 : Nat) : Int) < 2 ^ 62; omega⟩, ?_⟩
      have ex : ((x.2 : Nat) : Int).toNat = x.2 := by omega
      rw [ex]
      refine lc_map dkFr j5 (fun d v => ∃ n, n < r + 1 ∧ v = nD n) (fun _ _ => trivial) (szl (by simp; omega)) (fun j d H6 hd s6 j6 => ⟨_, rfl, fun h hh => ?_⟩) fun p7 xs H7 hp7 s7 j7 e7 f7 => ?_
      · repeat infer_instance
        exact ⟨a, c, r + 1, rfl, j6, by omega, by omega, fun n H8 s8 j8 hn => hh _ H8 s8 j8 ⟨n, hn, rfl⟩⟩
      · have hx : ∃ fs : List Nat, xs = il fs ∧ ∀ f ∈ fs, f < r + 1 := by
          exact nats_of f7
        obtain ⟨fs, rfl, hfs⟩ := hx
        have hfl : fs.length = x.2 := by
          have := f7.len
          simpa using this.symm
        repeat infer_instance
        refine e_tuple (.inl e7) ?_
        repeat infer_instance
        refine ⟨sz (by simp), ?_⟩
        repeat infer_instance
        have epr7 := s7 _ _ npr epr5
        refine e_app epr7 (by rw [List.length_map]; exact szl (by omega)) ?_
        rw [show rows.map rowD ++ [D.tup [.str x.1, .tup (il fs)]] = (rows ++ [(x.1, fs)]).map rowD from by rw [List.map_append]; rfl]
        refine fin.of ⟨rows ++ [(x.1, fs)], _, _, _, _, _, rfl, ((sH.trans s5).trans s7).gup gpr, dkFr.st _ _ _ j7 npr, (gup_ne ntr).trans (s7 _ _ npt ept5), gup_same, by rw [List.length_append, hl]; rfl, fun y hy => ?_⟩
        rcases List.mem_append.mp hy with hy | hy
        · exact hrows y hy
        · have : y = (x.1, fs) := by simpa using hy
          subst this
          exact ⟨x1, by show fs.length ≤ 8; omega, hfs⟩
    · subst hσ
      rw [List.length_map, List.length_range] at hl
      repeat infer_instance
      refine e_tuple (.inl epr) (fin.of (k rows H sH jH ⟨by omega, by omega, fun i t fs e => ?_, fun i t fs e => (hrows _ (List.mem_of_getElem? e)).1⟩ (by omega)))
      obtain ⟨_, h1, h2⟩ := hrows _ (List.mem_of_getElem? e)
      exact ⟨fun f hf => by rw [hl]; exact h2 f hf, h1⟩
  · by_cases h3 : (0 : Int) < (r3 : Int)
    · rw [decide_eq_true h3, if_pos rfl]
      repeat infer_instance
      refine i_lst e3 ?_
      refine lc_ff dkFr j3 ts sgD sgD (fun x => decide ((0 : Int) < (x.2 : Int))) rfl (fun G' s => .inl (s pt _ npt e3)) (szl (by omega)) (fun i x G4 hx s4 j4 => ⟨_, rfl, fun h hh => ?_⟩) (fun i x G4 σ2 hx hb s4 j4 hp h hh => ?_) fun p5 G5 hp5 s5 j5 e5 => ?_
      · repeat infer_instance
        refine e_ixTup (v := nD x.2) rfl ?_
        repeat infer_instance
        refine e_gtI ?_
        exact hh G4 Sx.refl j4
      · cases hp
        repeat infer_instance
        exact hh G4 Sx.refl j4
      · have fl := List.length_filter_le (fun x : Str × Nat => decide ((0 : Int) < (x.2 : Int))) ts
        repeat infer_instance
        refine e_mulL e5 (sz (by rw [List.length_map]; omega)) (new_run fun p6 G6 hp6 s6 e6 _ => ?_)
        have e36 := s6 _ _ id (s5 _ _ npt e3)
        refine e_addL e36 e6 (sz (by simp only [List.length_append, List.length_map]; omega)) (new_run fun p7 G7 hp7 s7 e7 _ => ?_)
        have j7 := (j5.mono s6).mono s7
        refine key _ _ ⟨p7, ts ++ (ts.filter _ ++ ts.filter _), _, _, _, _, _, _, rfl, (((s02.trans s3).trans s5).trans s6.of).trans s7.of, j7, (j5.mono s6).ne hp7, by rw [e7, List.map_append, List.map_append], ?_, ?_, fun x hx => ?_⟩
        · intro z
          have := congrArg List.length z
          simp only [List.length_append, List.length_nil] at this
          omega
        · simp only [List.length_append]
          omega
        · rcases List.mem_append.mp hx with hx | hx
          · exact tok x hx
          · rcases List.mem_append.mp hx with hx | hx
            · exact tok x (List.mem_filter.mp hx).1
            · exact tok x (List.mem_filter.mp hx).1
    · rw [decide_eq_false h3, if_neg Bool.false_ne_true]
      refine x_next ?_
      refine key _ _ ⟨pt, ts, _, _, _, _, _, _, rfl, s02.trans s3, j3, npt, e3, ?_, by omega, tok⟩
      intro z
      rw [z] at tl
      simp at tl
end
end DL.K81
/-! Q4: sheets put otherwise write the same. -/
namespace DL.K81
open PySem PySem.Spec PyProof.Rows L2 DL
local macro_rules
  | `(tactic| infer_instance) => `(tactic| first
    | with_reducible refine x_seq ?_
    | with_reducible refine x_asgN ?_
    | with_reducible refine x_asg ?_
    | with_reducible refine x_drop ?_
    | with_reducible refine x_ret ?_
    | with_reducible refine x_if ?_
    | with_reducible refine x_par ?_
    | with_reducible refine x_par3 ?_
    | with_reducible refine x_next ?_
    | with_reducible refine x_break ?_
    | with_reducible refine x_cont ?_
    | ((with_reducible refine x_var ?_); refine look rfl ?_)
    | with_reducible refine x_c ?_
    | with_reducible refine x_op ?_
    | with_reducible refine x_un ?_
    | with_reducible refine x_nil ?_
    | with_reducible refine x_cons ?_
    | with_reducible refine x_star ?_
    | with_reducible refine x_cb ?_
    | with_reducible refine x_bm ?_
    | with_reducible refine x_call ?_
    | with_reducible refine x_callK ?_
    | with_reducible refine x_tup ?_
    | with_reducible refine x_lst ?_
    | with_reducible refine x_newD ?_
    | with_reducible refine x_test ?_
    | with_reducible refine x_not ?_
    | with_reducible refine x_and ?_
    | with_reducible refine x_or ?_
    | with_reducible refine x_ifE ?_
    | with_reducible refine x_notV ?_
    | with_reducible refine x_yes ?_
    | with_reducible refine x_gname ?_
    | with_reducible refine x_gnil ?_
    | with_reducible refine x_gcons ?_
    | with_reducible refine x_gtup rfl ?_
    | with_reducible refine x_gsub ?_
    | with_reducible refine x_it ?_
    | with_reducible refine x_range1 ?_
    | with_reducible refine x_enum ?_
    | with_reducible refine x_lc ?_
    | with_reducible refine x_dc ?_
    | with_reducible refine x_for ?_
    | with_reducible refine e_rev ?_
    | with_reducible refine x_arg1 ?_
    | with_reducible refine x_arg2 ?_
    | with_reducible refine x_arg3 ?_
    | with_reducible refine x_isB ?_
    | with_reducible refine x_isI ?_
    | with_reducible refine x_items ?_
    | with_reducible refine x_values ?_
    | with_reducible refine x_keys ?_
    | with_reducible refine x_listV ?_
    | with_reducible refine x_sumV ?_
    | with_reducible refine x_listItems ?_
    | with_reducible refine x_sortItems ?_
    | with_reducible refine x_zipL ?_
    | with_reducible refine x_lenSetI ?_
    | with_reducible refine x_sortSet ?_
    | with_reducible refine x_isI' ?_
    | with_reducible refine x_dpN ?_
    | with_reducible refine x_dpC ?_
    | with_reducible refine x_slice ?_
    | with_reducible refine x_noPart ?_
    | with_reducible refine x_part ?_
    | with_reducible refine x_listR2 ?_
    | with_reducible refine x_range2 ?_
    | ((with_reducible refine x_augI ?_); refine augK rfl ?_))
section
theorem if_cut {tt : TTd} {t u : TSd} {E : Ed} {σ : Sd} {G : Gp} (P : Sd → Gp → Prop) (key : ∀ σ' G', P σ' G' → E.nx σ' G') (h : (∀ σ' G', P σ' G' → E.nx σ' G') → dIf tt t u E σ G) : dIf tt t u E σ G := h key
/-- a row twice, fields lead to either -/
structure Dbl (rows : Sheet) (at_ : Nat) (cur : Sheet) : Prop where
  len : cur.length = rows.length + 1
  row : ∀ (j : Nat) t fs, (rows ++ [rows.getD at_ ("", [])])[j]? = some (t, fs) → ∃ fs', cur[j]? = some (t, fs') ∧ M.F2 (fun f' f => f' = f ∨ (f' = rows.length ∧ f = at_)) fs' fs
theorem Dbl.start {rows : Sheet} {at_ : Nat} : Dbl rows at_ (rows ++ [rows.getD at_ ("", [])]) := ⟨by simp, fun j t fs e => ⟨fs, e, M.F2.refl fun f _ => .inl rfl⟩⟩
theorem Dbl.cur {rows cur : Sheet} {at_ : Nat} (h : Dbl rows at_ cur) {j : Nat} {t : Str} {fs' : List Nat} (e : cur[j]? = some (t, fs')) : ∃ fs, (rows ++ [rows.getD at_ ("", [])])[j]? = some (t, fs) ∧ M.F2 (fun f' f => f' = f ∨ (f' = rows.length ∧ f = at_)) fs' fs := by
  have hj := (List.getElem?_eq_some_iff.mp e).1
  have hl := h.len
  have hj2 : j < (rows ++ [rows.getD at_ ("", [])]).length := by
    rw [List.length_append, List.length_singleton]
    omega
  obtain ⟨fs2, e2, f2⟩ := h.row j _ _ (List.getElem?_eq_getElem (h := hj2))
  rw [e] at e2
  cases e2
  exact ⟨_, List.getElem?_eq_getElem hj2, f2⟩
theorem Dbl.set {rows cur : Sheet} {at_ : Nat} (h : Dbl rows at_ cur) (hat : at_ < rows.length) {i : Nat} {t : Str} {fs' gs : List Nat} (e : cur[i]? = some (t, fs')) (hg : M.F2 (fun g f => g = f ∨ (g = rows.length ∧ f = at_)) gs fs') : Dbl rows at_ (cur.set i (t, gs)) := by
  refine ⟨by rw [List.length_set]; exact h.len, fun j t2 fs2 e2 => ?_⟩
  by_cases hij : i = j
  · subst hij
    obtain ⟨fs, e3, f3⟩ := h.cur e
    rw [e2] at e3
    cases e3
    refine ⟨gs, by rw [List.getElem?_set_self (List.getElem?_eq_some_iff.mp e).1], (hg.comp f3).imp fun g f ⟨f', h1, h2⟩ => ?_⟩
    rcases h1 with rfl | ⟨h1, h3⟩
    · exact h2
    · rcases h2 with rfl | ⟨h2, h4⟩
      · exact .inr ⟨h1, h3⟩
      · omega
  · obtain ⟨fs3, e3, f3⟩ := h.row j t2 fs2 e2
    exact ⟨fs3, by rw [List.getElem?_set_ne hij]; exact e3, f3⟩
theorem base_row {rows : Sheet} {at_ : Nat} (hat : at_ < rows.length) {j : Nat} {t : Str} {fs : List Nat} (e : (rows ++ [rows.getD at_ ("", [])])[j]? = some (t, fs)) : ∃ k, k < rows.length ∧ rows[k]? = some (t, fs) ∧ (j = k ∨ (j = rows.length ∧ k = at_)) := by
  by_cases hj : j < rows.length
  · rw [List.getElem?_append_left hj] at e
    exact ⟨j, hj, e, .inl rfl⟩
  · have hl := (List.getElem?_eq_some_iff.mp e).1
    rw [List.length_append, List.length_singleton] at hl
    have ej : j = rows.length := by omega
    subst ej
    rw [List.getElem?_append_right (Nat.le_refl _), Nat.sub_self, List.getElem?_cons_zero, List.getD_eq_getElem?_getD, List.getElem?_eq_getElem hat] at e
    refine ⟨at_, hat, ?_, .inr ⟨rfl, rfl⟩⟩
    rw [List.getElem?_eq_getElem hat]
    exact e
theorem Dbl.good {rows cur : Sheet} {at_ : Nat} (h : Dbl rows at_ cur) (hg : Good rows) (h60 : rows.length < 60) (hat : at_ < rows.length) : Good cur := by
  have hl := h.len
  refine ⟨by omega, by omega, fun j t fs e => ?_, fun j t fs e => ?_⟩
  · obtain ⟨fs2, e2, f2⟩ := h.cur e
    obtain ⟨k, hk, e3, _⟩ := base_row hat e2
    obtain ⟨h1, h2⟩ := hg.ok k t fs2 e3
    refine ⟨fun f hf => ?_, by rw [f2.len]; exact h2⟩
    obtain ⟨f', hf', r⟩ := f2.memL hf
    have := h1 f' hf'
    rcases r with rfl | ⟨rfl, _⟩ <;> omega
  · obtain ⟨fs2, e2, f2⟩ := h.cur e
    obtain ⟨k, hk, e3, _⟩ := base_row hat e2
    exact hg.tag k t fs2 e3
theorem Dbl.bis {rows cur : Sheet} {at_ : Nat} (h : Dbl rows at_ cur) (hg : Good rows) (hat : at_ < rows.length) : M.Bis (M.gr cur) 0 (M.gr rows) 0 := by
  refine ⟨fun x y => y < rows.length ∧ (x = y ∨ (x = rows.length ∧ y = at_)), ⟨fun x y ⟨hy, hxy⟩ => ?_⟩, hg.pos, .inl rfl⟩
  obtain ⟨t, fs, e, h1, _⟩ := hg.row hy
  have eb : (rows ++ [rows.getD at_ ("", [])])[x]? = some (t, fs) := by
    rcases hxy with rfl | ⟨rfl, rfl⟩
    · rw [List.getElem?_append_left hy]
      exact e
    · rw [List.getElem?_append_right (Nat.le_refl _), Nat.sub_self, List.getElem?_cons_zero, List.getD_eq_getElem?_getD, e]
      rfl
  obtain ⟨fs', e', f⟩ := h.row x t fs eb
  exact ⟨t, fs', fs, e', e, f.impM fun a _ b hb r => ⟨h1 b hb, r⟩⟩
/-- rows in another order, the first one first -/
theorem order_bis {rows : Sheet} (hg : Good rows) {o : List Nat} (nd : o.Nodup) (h0 : o[0]? = some 0) (hm : ∀ x, x ∈ o ↔ x < rows.length) {out : Sheet} (ho : M.F2 (fun x (p : Str × List Nat) => ∃ t fs, rows[x]? = some (t, fs) ∧ p = (t, fs.map fun f => o.idxOf f)) o out) :
    Good out ∧ M.Bis (M.gr out) 0 (M.gr rows) 0 ∧ out.length = rows.length := by
  have hl : out.length = rows.length := by
    have h1 := M.len_le_sub nd (D := List.range rows.length) fun x hx => List.mem_range.mpr ((hm x).mp hx)
    have h2 := M.len_le_sub List.nodup_range (C := List.range rows.length) (D := o) fun x hx => (hm x).mpr (List.mem_range.mp hx)
    rw [List.length_range] at h1 h2
    have := ho.len
    omega
  have hol := ho.len
  have at_ : ∀ {k : Nat} {p : Str × List Nat}, out[k]? = some p → ∃ x t fs, o[k]? = some x ∧ rows[x]? = some (t, fs) ∧ p = (t, fs.map fun f => o.idxOf f) := fun {k p} e => by
    have hk := (List.getElem?_eq_some_iff.mp e).1
    have hk2 : k < o.length := by omega
    obtain ⟨t, fs, e1, e2⟩ := ho.get (List.getElem?_eq_getElem hk2) e
    exact ⟨_, t, fs, List.getElem?_eq_getElem hk2, e1, e2⟩
  have hle := hg.le
  have hpos := hg.pos
  refine ⟨⟨by omega, by omega, fun k t fs e => ?_, fun k t fs e => ?_⟩, ?_, hl⟩
  · obtain ⟨x, t', fs', e1, e2, e3⟩ := at_ e
    cases e3
    obtain ⟨h1, h2⟩ := hg.ok x _ fs' e2
    refine ⟨fun f hf => ?_, by rw [List.length_map]; exact h2⟩
    obtain ⟨y, hy, rfl⟩ := List.mem_map.mp hf
    have := List.idxOf_lt_length_of_mem ((hm y).mpr (h1 y hy))
    omega
  · obtain ⟨x, t', fs', e1, e2, e3⟩ := at_ e
    cases e3
    exact hg.tag x _ fs' e2
  · refine ⟨fun k x => o[k]? = some x, ⟨fun k x e => ?_⟩, h0⟩
    have hk := (List.getElem?_eq_some_iff.mp e).1
    have hk2 : k < out.length := by omega
    obtain ⟨x', t, fs, e1, e2, e3⟩ := at_ (List.getElem?_eq_getElem hk2)
    rw [e] at e1
    cases e1
    refine ⟨t, fs.map fun f => o.idxOf f, fs, ?_, e2, M.F2.mapL.mpr (M.F2.refl fun f hf => ?_)⟩
    · show out[k]? = _
      rw [List.getElem?_eq_getElem hk2, e3]
    · exact M.get_idx ((hm f).mpr ((hg.ok x t fs e2).1 f hf))
theorem rg_perm {m : Nat} (hm : 0 < m) {ys rest : List D} (h : (ys ++ rest).Perm (dRgD 1 (m : Int))) (hl : ys.length = min (m - 1) (dRgD 1 (m : Int)).length) : ∃ o : List Nat, nD 0 :: ys = il o ∧ o.Nodup ∧ o[0]? = some 0 ∧ ∀ x, x ∈ o ↔ x < m := by
  have e : dRgD 1 (m : Int) = (List.range (m - 1)).map (fun i => nD (i + 1)) := by
    unfold dRgD
    rw [show (((m : Int)) - 1).toNat = m - 1 from by omega]
    refine List.map_congr_left fun i _ => ?_
    unfold nD
    congr 1
    omega
  rw [e] at h hl
  rw [List.length_map, List.length_range, Nat.min_self] at hl
  have hr : rest = [] := by
    have := h.length_eq
    rw [List.length_append, List.length_map, List.length_range] at this
    exact List.length_eq_zero_iff.mp (by omega)
  subst hr
  rw [List.append_nil] at h
  obtain ⟨is, rfl, hp⟩ := perm_map (f := fun i : Nat => nD (i + 1)) h rfl
  refine ⟨0 :: is.map (· + 1), by simp [Function.comp_def], ?_, rfl, fun x => ?_⟩
  · refine List.nodup_cons.mpr ⟨by simp, ?_⟩
    have hn : is.Nodup := hp.nodup_iff.mpr List.nodup_range
    exact List.Pairwise.map _ (fun a b hab => by omega) hn
  · constructor
    · intro hx
      rcases List.mem_cons.mp hx with rfl | hx
      · exact hm
      · obtain ⟨i, hi, rfl⟩ := List.mem_map.mp hx
        have := List.mem_range.mp (hp.mem_iff.mp hi)
        omega
    · intro hx
      cases x with
      | zero => exact List.mem_cons_self
      | succ x => exact List.mem_cons_of_mem _ (List.mem_map.mpr ⟨x, hp.mem_iff.mpr (List.mem_range.mpr (by omega)), rfl⟩)
end
end DL.K81
/-! Q5: _law_disguised: another sheet that writes the same. -/
namespace DL.K81
open PySem PySem.Spec PyProof.Rows L2 DL
local macro_rules
  | `(tactic| infer_instance) => `(tactic| first
    | with_reducible refine x_seq ?_
    | with_reducible refine x_asgN ?_
    | with_reducible refine x_asg ?_
    | with_reducible refine x_drop ?_
    | with_reducible refine x_ret ?_
    | with_reducible refine x_if ?_
    | with_reducible refine x_par ?_
    | with_reducible refine x_par3 ?_
    | with_reducible refine x_next ?_
    | with_reducible refine x_break ?_
    | with_reducible refine x_cont ?_
    | ((with_reducible refine x_var ?_); refine look rfl ?_)
    | with_reducible refine x_c ?_
    | with_reducible refine x_op ?_
    | with_reducible refine x_un ?_
    | with_reducible refine x_nil ?_
    | with_reducible refine x_cons ?_
    | with_reducible refine x_star ?_
    | with_reducible refine x_cb ?_
    | with_reducible refine x_bm ?_
    | with_reducible refine x_call ?_
    | with_reducible refine x_callK ?_
    | with_reducible refine x_tup ?_
    | with_reducible refine x_lst ?_
    | with_reducible refine x_newD ?_
    | with_reducible refine x_test ?_
    | with_reducible refine x_not ?_
    | with_reducible refine x_and ?_
    | with_reducible refine x_or ?_
    | with_reducible refine x_ifE ?_
    | with_reducible refine x_notV ?_
    | with_reducible refine x_yes ?_
    | with_reducible refine x_gname ?_
    | with_reducible refine x_gnil ?_
    | with_reducible refine x_gcons ?_
    | with_reducible refine x_gtup rfl ?_
    | with_reducible refine x_gsub ?_
    | with_reducible refine x_it ?_
    | with_reducible refine x_range1 ?_
    | with_reducible refine x_enum ?_
    | with_reducible refine x_lc ?_
    | with_reducible refine x_dc ?_
    | with_reducible refine x_for ?_
    | with_reducible refine e_rev ?_
    | with_reducible refine x_arg1 ?_
    | with_reducible refine x_arg2 ?_
    | with_reducible refine x_arg3 ?_
    | with_reducible refine x_isB ?_
    | with_reducible refine x_isI ?_
    | with_reducible refine x_items ?_
    | with_reducible refine x_values ?_
    | with_reducible refine x_keys ?_
    | with_reducible refine x_listV ?_
    | with_reducible refine x_sumV ?_
    | with_reducible refine x_listItems ?_
    | with_reducible refine x_sortItems ?_
    | with_reducible refine x_zipL ?_
    | with_reducible refine x_lenSetI ?_
    | with_reducible refine x_sortSet ?_
    | with_reducible refine x_isI' ?_
    | with_reducible refine x_dpN ?_
    | with_reducible refine x_dpC ?_
    | with_reducible refine x_slice ?_
    | with_reducible refine x_noPart ?_
    | with_reducible refine x_part ?_
    | with_reducible refine x_listR2 ?_
    | with_reducible refine x_range2 ?_
    | ((with_reducible refine x_augI ?_); refine augK rfl ?_))
section
theorem dbls_of {n at_ : Nat} : ∀ {fs : List Nat} {xs : List D}, F2 (fun d v => ∃ f f' : Nat, d = nD f ∧ v = nD f' ∧ (f' = f ∨ (f' = n ∧ f = at_))) (il fs) xs → ∃ gs : List Nat, xs = il gs ∧ M.F2 (fun g f => g = f ∨ (g = n ∧ f = at_)) gs fs
  | [], _, .nil => ⟨[], rfl, .nil⟩
  | f :: fs, _, .cons ⟨f1, g, e1, e2, e3⟩ t => by
    obtain ⟨gs, e4, f4⟩ := dbls_of t
    have : f = f1 := nD_inj e1
    subst this e2 e4
    exact ⟨g :: gs, rfl, .cons e3 f4⟩
def SDdisguised : SpD := fun ds G q => ∃ a c rows, ds = [.ref a, sheetD rows] ∧ DkJ a c G ∧ Good rows ∧ rows.length < 60 ∧ ∀ rows' G', Sx (Dk a c) G G' → DkJ a c G' → Good rows' → rows'.length ≤ rows.length + 1 → M.Bis (M.gr rows') 0 (M.gr rows) 0 → q (sheetD rows') G'
theorem rdDdisguised (ds : List D) (G : Gp) (q : QD) (h : SDdisguised ds G q) : tLdisguised SDdraw SDsome { nx := fun _ G' => fin (q .non) G', rt := fun d G' => fin (q d) G' } (startD NLdisguised ds) G := by
  obtain ⟨a, c, rows, rfl, hj, hg, h60, k⟩ := h
  have hle := hg.le
  have hpos := hg.pos
  unfold tLdisguised
  with_reducible refine x_seq ?_
  repeat infer_instance
  refine e_listT (new_run fun pl G1 hpl s1 e1 _ => ?_)
  with_reducible refine x_seq ?_
  have j1 := hj.mono s1
  have npl : ¬ Dk a c pl := hj.ne hpl
  with_reducible refine if_cut (fun σ' H => ∃ (cur : Sheet) (x2 x3 x4 x5 x6 x7 x8 x9 x10 : Option D), σ' = [some (.ref a), some (.ref pl), x2, x3, x4, x5, x6, x7, x8, x9, x10] ∧ Sx (Dk a c) G H ∧ DkJ a c H ∧ H pl = some (.lst (cur.map rowD)) ∧ Good cur ∧ cur.length ≤ rows.length + 1 ∧ M.Bis (M.gr cur) 0 (M.gr rows) 0) (fun σ' H ⟨cur, x2, x3, x4, x5, x6, x7, x8, x9, x10, hσ, sH, jH, epl, gc, lc, bc⟩ => ?_) (fun key => ?_)
  · subst hσ
    have cl := gc.le
    have cp := gc.pos
    repeat infer_instance
    refine ⟨sz (by simp), new_run fun p0 H1 hp0 s2 e2 _ => ?_⟩
    repeat infer_instance
    have epl2 := s2 _ _ id epl
    refine e_len (.inl epl2) ?_
    repeat infer_instance
    rw [List.length_map]
    refine ⟨by unfold RgOk; omega, new_run fun p3 H3 hp3 s3 e3 _ => ?_⟩
    repeat infer_instance
    have epl3 := s3 _ _ id epl2
    refine e_len (.inl epl3) ?_
    repeat infer_instance
    rw [List.length_map]
    have j3 := (jH.mono s2).mono s3
    have np3 : ¬ Dk a c p3 := (jH.mono s2).ne hp3
    have e02 := s3 _ _ id e2
    have np0 : ¬ Dk a c p0 := jH.ne hp0
    refine ⟨a, c, p3, cur.length - 1, _, by show [D.ref a, D.ref p3, D.int (((cur.length : Nat) : Int) - 1)] = _; rw [show D.int (((cur.length : Nat) : Int) - 1) = nD (cur.length - 1) from by unfold nD; congr 1; omega], j3, np3, e3, by unfold dRgD; rw [List.length_map, List.length_range]; omega, fun p4 ys rest H4 hp4 e4 hperm hlen s4 j4 => ?_⟩
    obtain ⟨o, eo, ond, o0, om⟩ := rg_perm cp hperm hlen
    have e04 := s4 _ _ np0 e02
    have epl4 := s4 _ _ npl epl3
    have oll : o.length ≤ 60 := by
      have := M.len_le_sub ond (D := List.range cur.length) fun x hx => List.mem_range.mpr ((om x).mp hx)
      rw [List.length_range] at this
      omega
    refine e_addL e04 e4 (sz (by have := congrArg List.length eo; simp only [List.length_cons, List.length_map] at this; simp only [List.length_singleton]; omega)) (new_run fun p5 H5 hp5 s5 e5 _ => ?_)
    have e5' : H5 p5 = some (.lst (il o)) := by
      rw [e5, ← eo]
      rfl
    have j5 := j4.mono s5
    have np5 : ¬ Dk a c p5 := j4.ne hp5
    have epl5 := s5 _ _ id epl4
    repeat infer_instance
    refine e_isSeq (.inl e5') ?_
    refine lc_fn dkFr j5 o.zipIdx (fun x => .tup [nD x.2, nD x.1]) (fun x => .tup [nD x.1, nD x.2]) (enum_il o) (fun G' s => .inl (s p5 _ np5 e5')) (szl (by rw [List.length_zipIdx]; omega)) (fun i x G' hx s _ => ⟨_, rfl, fun h hh => ?_⟩) fun p6 H6 hp6 s6 j6 e6 => ?_
    · repeat infer_instance
      exact ⟨sz (by simp), hh G' Sx.refl (by assumption)⟩
    repeat infer_instance
    refine x_arg1 ?_
    show (match H6 p6 with
      | some (.lst ds) => _
      | some (.rol ds) => _
      | some (.ftp ds) => _
      | _ => False)
    rw [e6]
    refine ⟨kd nD nD o.zipIdx, by unfold kd; rw [List.map_map]; rfl, .inl (kd_nat _), new_run fun ps H7 hps s7 e7 _ => ?_⟩
    have e7' : H7 ps = some (.dic (kd nD nD o.zipIdx)) := by
      rw [e7, dputs_kd key_nat, aputs_nodup (by simpa using ond)]
    repeat infer_instance
    refine ⟨sz (by simp), new_run fun pf H8 hpf s8 e8 _ => ?_⟩
    repeat infer_instance
    refine ⟨sz (by simp), ?_⟩
    repeat infer_instance
    have j7 := j6.mono s7
    have j8 := j7.mono s8
    have npf : ¬ Dk a c pf := j7.ne hpf
    have nps : ¬ Dk a c ps := j6.ne hps
    have e7'' := s8 _ _ id e7'
    have epl8 := s8 _ _ id (s7 _ _ id (s6 _ _ npl epl5))
    have e5'' := s8 _ _ id (s7 _ _ id (s6 _ _ np5 e5'))
    have sT : Sx (Dk a c) G H8 := ((((((sH.trans s2.of).trans s3.of).trans s4).trans s5.of).trans s6).trans s7.of).trans s8.of
    have gpf : G pf = none := (((((((sH.trans s2.of).trans s3.of).trans s4).trans s5.of).trans s6).trans s7.of)).back npf hpf
    have nlf : pl ≠ pf := by rintro rfl; rw [s7 _ _ id (s6 _ _ npl epl5)] at hpf; cases hpf
    have n5f : p5 ≠ pf := by rintro rfl; rw [s7 _ _ id (s6 _ _ np5 e5')] at hpf; cases hpf
    have nsf : ps ≠ pf := by rintro rfl; rw [e7'] at hpf; cases hpf
    refine i_lst e5'' ?_
    refine ⟨fun i σ H => ∃ (out : Sheet) (x2 x3 x4 x5 x6 x10 : Option D), σ = [some (.ref a), some (.ref pl), x2, x3, x4, x5, x6, some (.ref p5), some (.ref ps), some (.ref pf), x10] ∧ Sx (Dk a c) G H ∧ DkJ a c H ∧ H pl = some (.lst (cur.map rowD)) ∧ H p5 = some (.lst (il o)) ∧ H ps = some (.dic (kd nD nD o.zipIdx)) ∧ H pf = some (.lst (out.map rowD)) ∧ M.F2 (fun x (p : Str × List Nat) => ∃ t fs, cur[x]? = some (t, fs) ∧ p = (t, fs.map fun f => o.idxOf f)) (o.take i) out,
      fin.of ⟨[], _, _, _, _, _, _, rfl, sT, j8, epl8, e5'', e7'', e8, .nil⟩, fun i σ H ⟨_, _, _, _, _, _, _, _, _, _, _, e, _⟩ => .inl e, fun i d σ H hd ⟨out, x2, x3, x4, x5, x6, x10, hσ, sH, jH, epl, e5, eps, epf, fo⟩ => ?_, fun σ H ⟨out, x2, x3, x4, x5, x6, x10, hσ, sH, jH, epl, e5, eps, epf, fo⟩ => ?_⟩
    · subst hσ
      obtain ⟨x, hx, rfl⟩ := il_gev hd
      have xl := (om x).mp (List.mem_of_getElem? hx)
      obtain ⟨t, fs, ex, hfs, hf8⟩ := gc.row xl
      have tq := tag_q t (gc.tag _ _ _ ex)
      repeat infer_instance
      refine e_ixL (.inl epl) (atI_nat (v := rowD (t, fs)) (by rw [List.getElem?_map, ex]; rfl)) ?_
      repeat infer_instance
      refine ⟨t_lst (.inl epf), ?_⟩
      repeat infer_instance
      refine row_tag ?_
      repeat infer_instance
      refine e_eqStr ?_
      repeat infer_instance
      rw [decide_eq_false tq, if_neg (by decide)]
      repeat infer_instance
      refine row_tag ?_
      repeat infer_instance
      refine row_fld ?_
      refine i_tup ?_
      refine lc_fn dkFr jH fs nD (fun f => nD (o.idxOf f)) rfl (fun _ _ => trivial) (szl (by omega)) (fun j f G4 hf s4 j4 => ⟨_, rfl, fun h4 hh4 => ?_⟩) fun b G4 hb s4 j4 e4 => ?_
      · have fo2 : f ∈ o := (om f).mpr (hfs f (List.mem_of_getElem? hf))
        repeat infer_instance
        refine e_ixD (.inl (s4 _ _ nps eps)) (kd_fits key_nat _ f) ?_ (hh4 G4 Sx.refl j4)
        have := kd_get (V := nD) key_nat o.zipIdx f
        rw [aget_zipIdx fo2] at this
        exact this
      · repeat infer_instance
        refine e_tuple (.inl e4) ?_
        repeat infer_instance
        refine ⟨sz (by simp), ?_⟩
        repeat infer_instance
        have epf4 := s4 _ _ npf epf
        have fol := fo.len
        rw [List.length_take] at fol
        refine e_app epf4 (szl (by rw [List.length_map]; omega)) ?_
        have em : out.map rowD ++ [D.tup [.str t, .tup (fs.map fun f => nD (o.idxOf f))]] = (out ++ [(t, fs.map fun f => o.idxOf f)]).map rowD := by
          rw [List.map_append]
          simp [Function.comp_def]
        rw [em]
        refine fin.of ⟨out ++ [(t, fs.map fun f => o.idxOf f)], _, _, _, _, _, _, rfl, (sH.trans s4).gup gpf, dkFr.st _ _ _ j4 npf, (gup_ne nlf).trans (s4 _ _ npl epl), (gup_ne n5f).trans (s4 _ _ np5 e5), (gup_ne nsf).trans (s4 _ _ nps eps), gup_same, ?_⟩
        rw [take_succ_get hx]
        exact fo.app (.cons ⟨t, fs, ex, rfl⟩ .nil)
    · subst hσ
      rw [List.length_map, List.take_length] at fo
      obtain ⟨g1, g2, g3⟩ := order_bis gc ond o0 om fo
      repeat infer_instance
      exact e_tuple (.inl epf) (fin.of (k out H sH jH g1 (by omega) (g2.trans bc)))
  · have stay : ∀ {H} {x2 x3 x4 x5 x6 : Option D}, Sx (Dk a c) G1 H → DkJ a c H → dNext { nx := _, rt := _ } [some (.ref a), some (.ref pl), x2, x3, x4, x5, x6, none, none, none, none] H := fun {H x2 x3 x4 x5 x6} s j => key _ _ ⟨rows, _, _, _, _, _, _, _, _, _, rfl, s1.of.trans s, j, s _ _ npl e1, hg, by omega, hg.cl.bis hpos⟩
    repeat infer_instance
    refine ⟨a, c, 2, rfl, j1, by decide, by decide, fun r G2 s2 j2 _ => ?_⟩
    repeat infer_instance
    refine e_eqInt ?_
    repeat infer_instance
    by_cases hr : (r : Int) = 0
    · rw [decide_eq_true hr, if_pos (by decide)]
      repeat infer_instance
      have e2 := s2 _ _ npl e1
      refine e_len (.inl e2) ?_
      repeat infer_instance
      refine e_ltI ?_
      repeat infer_instance
      by_cases h20 : (((rows.map rowD).length : Nat) : Int) < 20
      · rw [decide_eq_true h20, if_pos rfl]
        rw [List.length_map] at h20
        repeat infer_instance
        refine e_len (.inl e2) ?_
        repeat infer_instance
        rw [List.length_map]
        refine ⟨a, c, rows.length, rfl, j2, hpos, by omega, fun at_ G3 s3 j3 hat => ?_⟩
        repeat infer_instance
        have e3 := s3 _ _ npl e2
        refine ⟨t_lst (.inl e3), ?_⟩
        repeat infer_instance
        refine e_ixL (.inl e3) (atI_nat (v := rowD (rows.getD at_ ("", []))) (by rw [List.getElem?_map, List.getElem?_eq_getElem hat, List.getD_eq_getElem?_getD, List.getElem?_eq_getElem hat]; rfl)) ?_
        repeat infer_instance
        refine e_app e3 (szl (by rw [List.length_map]; omega)) ?_
        rw [show rows.map rowD ++ [rowD (rows.getD at_ ("", []))] = (rows ++ [rows.getD at_ ("", [])]).map rowD from by rw [List.map_append]; rfl]
        have gpl : G pl = none := hpl
        have s4 : Sx (Dk a c) G (gup G3 pl (.lst ((rows ++ [rows.getD at_ ("", [])]).map rowD))) := ((s1.of.trans s2).trans s3).gup gpl
        have j4 : DkJ a c (gup G3 pl (.lst ((rows ++ [rows.getD at_ ("", [])]).map rowD))) := dkFr.st _ _ _ j3 npl
        have e4 : gup G3 pl (.lst ((rows ++ [rows.getD at_ ("", [])]).map rowD)) pl = some (.lst ((rows ++ [rows.getD at_ ("", [])]).map rowD)) := gup_same
        generalize gup G3 pl (.lst ((rows ++ [rows.getD at_ ("", [])]).map rowD)) = G4 at s4 j4 e4 ⊢
        repeat infer_instance
        refine e_len (.inl e4) ?_
        repeat infer_instance
        rw [List.length_map, List.length_append, List.length_singleton]
        refine ⟨⟨by show -(2 ^ 62) ≤ (((rows.length + 1 : Nat) : Int)); omega, by show (((rows.length + 1 : Nat) : Int)) < 2 ^ 62; omega⟩, ?_⟩
        rw [show (((rows.length + 1 : Nat) : Int)).toNat = rows.length + 1 from by omega]
        refine ⟨fun i σ H => ∃ (cur : Sheet) (x3 x4 x5 x6 : Option D), σ = [some (.ref a), some (.ref pl), some (nD at_), x3, x4, x5, x6, none, none, none, none] ∧ Sx (Dk a c) G H ∧ DkJ a c H ∧ H pl = some (.lst (cur.map rowD)) ∧ Dbl rows at_ cur,
          fin.of ⟨_, _, _, _, _, rfl, s4, j4, e4, Dbl.start⟩, fun _ _ _ _ => trivial, fun i d σ H hd ⟨cur, x3, x4, x5, x6, hσ, sH, jH, epl, db⟩ => ?_, fun σ H ⟨cur, x3, x4, x5, x6, hσ, sH, jH, epl, db⟩ => ?_⟩
        · subst hσ
          obtain ⟨hi, rfl⟩ := rng_get hd
          have gc := db.good hg h60 hat
          have dl := db.len
          have il2 : i < cur.length := by omega
          obtain ⟨t, fs, ei, hfs, hf8⟩ := gc.row il2
          have tq := tag_q t (gc.tag _ _ _ ei)
          repeat infer_instance
          refine e_ixL (.inl epl) (atI_nat (v := rowD (t, fs)) (by rw [List.getElem?_map, ei]; rfl)) ?_
          repeat infer_instance
          refine e_eqStr ?_
          repeat infer_instance
          rw [decide_eq_false tq, if_pos (by decide)]
          repeat infer_instance
          refine i_tup ?_
          refine lc_map dkFr jH (fun d v => ∃ f f' : Nat, d = nD f ∧ v = nD f' ∧ (f' = f ∨ (f' = rows.length ∧ f = at_))) (fun _ _ => trivial) (szl (by rw [List.length_map]; show fs.length < 64; omega)) (fun j d H5 hd s5 j5 => ⟨_, rfl, fun h hh => ?_⟩) fun p6 xs H6 hp6 s6 j6 e6 f6 => ?_
          · obtain ⟨f, hf, rfl⟩ := il_gev hd
            repeat infer_instance
            refine e_eqInt ?_
            repeat infer_instance
            by_cases hfa : (f : Int) = (at_ : Int)
            · rw [decide_eq_true hfa, if_pos (by decide)]
              repeat infer_instance
              refine ⟨a, c, 2, rfl, j5, by decide, by decide, fun r2 H7 s7 j7 _ => ?_⟩
              repeat infer_instance
              refine e_eqInt ?_
              repeat infer_instance
              by_cases hr2 : (r2 : Int) = 0
              · rw [decide_eq_true hr2, if_pos (by decide)]
                repeat infer_instance
                refine e_len (.inl (s7 _ _ npl (s5 _ _ npl epl))) ?_
                repeat infer_instance
                rw [List.length_map, dl]
                refine hh _ H7 s7 j7 ⟨f, rows.length, rfl, ?_, .inr ⟨rfl, by omega⟩⟩
                show D.int (((rows.length + 1 : Nat) : Int) - 1) = D.int ((rows.length : Nat) : Int)
                congr 1
                omega
              · rw [decide_eq_false hr2, if_neg (by decide)]
                repeat infer_instance
                exact hh _ H7 s7 j7 ⟨f, f, rfl, rfl, .inl rfl⟩
            · rw [decide_eq_false hfa, if_neg (by decide)]
              repeat infer_instance
              exact hh _ H5 Sx.refl j5 ⟨f, f, rfl, rfl, .inl rfl⟩
          · obtain ⟨gs, rfl, fg⟩ := dbls_of f6
            repeat infer_instance
            refine e_tuple (.inl e6) ?_
            repeat infer_instance
            refine ⟨sz (by simp), ?_⟩
            repeat infer_instance
            refine e_setL (s6 _ _ npl epl) (ixN_nat (by rw [List.length_map]; exact il2)) ?_
            rw [show (cur.map rowD).set i (D.tup [.str t, .tup (il gs)]) = (cur.set i (t, gs)).map rowD from by rw [List.map_set]]
            exact fin.of ⟨_, _, _, _, _, rfl, (sH.trans s6).gup gpl, dkFr.st _ _ _ j6 npl, gup_same, db.set hat ei fg⟩
        · subst hσ
          have dl := db.len
          exact key _ _ ⟨cur, _, _, _, _, _, _, _, _, _, rfl, sH, jH, epl, db.good hg h60 hat, by omega, db.bis hg hat⟩
      · rw [decide_eq_false h20, if_neg Bool.false_ne_true]
        exact stay s2 j2
    · rw [decide_eq_false hr, if_neg (by decide)]
      repeat infer_instance
      exact stay s2 j2
end
end DL.K81
/-! M8: how many values there are; numbers as whole numbers. -/
namespace DL.M
section
variable {α β : Type} {S : Nat → Prop} {κ : Nat → α}
theorem Vals.le_n [DecidableEq α] {n : Nat} {C : List α} (h : Vals (· < n) κ C) : C.length ≤ n := by
  have := len_le_rel (C := C) (D := List.range n) (R := fun a x => κ a = x) h.nd (fun x hx => by
    obtain ⟨a, ha, e⟩ := (h.mem x).mp hx
    exact ⟨a, List.mem_range.mpr ha, e⟩) fun y x x' _ _ e e' => e.symm.trans e'
  simpa using this
theorem Vals.len_eq [DecidableEq α] {C D : List α} (h : Vals S κ C) (h' : Vals S κ D) : C.length = D.length :=
  Nat.le_antisymm (h.le h' fun _ _ _ _ e => e) (h'.le h fun _ _ _ _ e => e)
theorem Vals.pos {C : List α} (h : Vals S κ C) {a : Nat} (sa : S a) : 0 < C.length := List.length_pos_of_mem ((h.mem _).mpr ⟨a, sa, rfl⟩)
end
section
variable {τ : Type} {g : Gr τ} {S : Nat → Prop} {κ : Nat → Nat} {β : Type} {κ' : Nat → β}
theorem int_iff {a b : Nat} : ((κ a : Nat) : Int) = ((κ b : Nat) : Int) ↔ κ a = κ b := by omega
theorem Ref.int (h : Ref g S κ) : Ref g S (fun a => (κ a : Int)) := ⟨fun a b sa sb e => int_iff.mpr (h.co a b sa sb e), fun a b sa sb e => h.tg a b sa sb (int_iff.mp e)⟩
theorem map_int {l m : List Nat} : (l.map fun a => ((κ a : Nat) : Int)) = (m.map fun a => ((κ a : Nat) : Int)) ↔ l.map κ = m.map κ := by
  constructor
  · intro h
    exact ((F2.of_map h).imp fun a b e => int_iff.mp e).map_eq
  · intro h
    exact ((F2.of_map h).imp fun a b e => int_iff.mpr e).map_eq
theorem Nxt.int (h : Nxt g S κ κ') : Nxt g S (fun a => (κ a : Int)) κ' := fun a b sa sb => by
  rw [h a b sa sb]
  constructor
  · rintro ⟨h1, h2⟩
    exact ⟨int_iff.mpr h1, map_int.mpr h2⟩
  · rintro ⟨h1, h2⟩
    exact ⟨int_iff.mp h1, map_int.mp h2⟩
theorem Vals.int {C : List Int} (h : Vals S (fun a => (κ a : Int)) C) : True := trivial
end
end DL.M
/-! X8: keys of plain data, sorted sets, how many numbers differ. -/
namespace DL
open PySem PySem.Spec PyProof.Rows L2
mutual
theorem key_inj : ∀ {d e : D}, plB d = true → plB e = true → keyOf d = keyOf e → d = e
  | .int i, .int j, _, _, h => by
    have h : some (NestedKey.num i) = some (NestedKey.num j) := h
    injection h with h
    injection h with h
    rw [h]
  | .str i, .str j, _, _, h => by
    have h : some (NestedKey.text i) = some (NestedKey.text j) := h
    injection h with h
    injection h with h
    rw [h]
  | .int i, .str j, _, _, h => by
    have h : some (NestedKey.num i) = some (NestedKey.text j) := h
    injection h with h
    cases h
  | .str i, .int j, _, _, h => by
    have h : some (NestedKey.text i) = some (NestedKey.num j) := h
    injection h with h
    cases h
  | .int i, .tup es, _, g, h => by
    rw [plB] at g
    obtain ⟨ks, e⟩ := keys_some g
    have h : some (NestedKey.num i) = (keysOf es).map .tup := h
    rw [e] at h
    injection h with h
    cases h
  | .str i, .tup es, _, g, h => by
    rw [plB] at g
    obtain ⟨ks, e⟩ := keys_some g
    have h : some (NestedKey.text i) = (keysOf es).map .tup := h
    rw [e] at h
    injection h with h
    cases h
  | .tup ds, .int j, g, _, h => by
    rw [plB] at g
    obtain ⟨ks, e⟩ := keys_some g
    have h : (keysOf ds).map .tup = some (NestedKey.num j) := h
    rw [e] at h
    injection h with h
    cases h
  | .tup ds, .str j, g, _, h => by
    rw [plB] at g
    obtain ⟨ks, e⟩ := keys_some g
    have h : (keysOf ds).map .tup = some (NestedKey.text j) := h
    rw [e] at h
    injection h with h
    cases h
  | .tup ds, .tup es, g1, g2, h => by
    rw [plB] at g1 g2
    obtain ⟨ks, e1⟩ := keys_some g1
    obtain ⟨ls, e2⟩ := keys_some g2
    have h : (keysOf ds).map NestedKey.tup = (keysOf es).map NestedKey.tup := h
    rw [e1, e2] at h
    injection h with h
    injection h with h
    rw [keys_inj g1 g2 (by rw [e1, e2, h])]
  | .non, _, g, _, _ => by cases g
  | .bl _, _, g, _, _ => by cases g
  | .ref _, _, g, _, _ => by cases g
  | .int _, .non, _, g, _ => by cases g
  | .int _, .bl _, _, g, _ => by cases g
  | .int _, .ref _, _, g, _ => by cases g
  | .str _, .non, _, g, _ => by cases g
  | .str _, .bl _, _, g, _ => by cases g
  | .str _, .ref _, _, g, _ => by cases g
  | .tup _, .non, _, g, _ => by cases g
  | .tup _, .bl _, _, g, _ => by cases g
  | .tup _, .ref _, _, g, _ => by cases g
theorem key_some : ∀ {d : D}, plB d = true → ∃ k, keyOf d = some k
  | .int i, _ => ⟨_, rfl⟩
  | .str i, _ => ⟨_, rfl⟩
  | .tup ds, g => by
    rw [plB] at g
    obtain ⟨ks, e⟩ := keys_some g
    exact ⟨.tup ks, by show (keysOf ds).map _ = _; rw [e]; rfl⟩
theorem keys_some : ∀ {ds : List D}, plBs ds = true → ∃ ks, keysOf ds = some ks
  | [], _ => ⟨[], rfl⟩
  | d :: ds, g => by
    rw [plBs, Bool.and_eq_true] at g
    obtain ⟨k, e1⟩ := key_some g.1
    obtain ⟨ks, e2⟩ := keys_some g.2
    refine ⟨k :: ks, ?_⟩
    show (match keyOf d, keysOf ds with | some k, some ks => some (k :: ks) | _, _ => none) = _
    rw [e1, e2]
theorem keys_inj : ∀ {ds es : List D}, plBs ds = true → plBs es = true → keysOf ds = keysOf es → ds = es
  | [], [], _, _, _ => rfl
  | [], e :: es, _, g, h => by
    rw [plBs, Bool.and_eq_true] at g
    obtain ⟨k, e1⟩ := key_some g.1
    obtain ⟨ks, e2⟩ := keys_some g.2
    have h : some [] = (match keyOf e, keysOf es with | some k, some ks => some (k :: ks) | _, _ => none) := h
    rw [e1, e2] at h
    cases h
  | d :: ds, [], g, _, h => by
    rw [plBs, Bool.and_eq_true] at g
    obtain ⟨k, e1⟩ := key_some g.1
    obtain ⟨ks, e2⟩ := keys_some g.2
    have h : (match keyOf d, keysOf ds with | some k, some ks => some (k :: ks) | _, _ => none) = some [] := h
    rw [e1, e2] at h
    cases h
  | d :: ds, e :: es, g1, g2, h => by
    rw [plBs, Bool.and_eq_true] at g1 g2
    obtain ⟨k, e1⟩ := key_some g1.1
    obtain ⟨ks, e2⟩ := keys_some g1.2
    obtain ⟨l, e3⟩ := key_some g2.1
    obtain ⟨ls, e4⟩ := keys_some g2.2
    have h : (match keyOf d, keysOf ds with | some k, some ks => some (k :: ks) | _, _ => none) = (match keyOf e, keysOf es with | some k, some ks => some (k :: ks) | _, _ => none) := h
    rw [e1, e2, e3, e4] at h
    injection h with h
    injection h with h1 h2
    rw [key_inj g1.1 g2.1 (by rw [e1, e3, h1]), keys_inj g1.2 g2.2 (by rw [e2, e4, h2])]
end
/-- a sorted set of written keys: each value once -/
theorem set_vals {α : Type} {K : α → D} {ds rs : List D} {n : Nat} {f : Nat → α} (hK : ∀ a, a < n → plB (K (f a)) = true) (hi : ∀ a b, K a = K b → a = b) (hds : ∀ d, d ∈ ds ↔ ∃ a, a < n ∧ d = K (f a)) (h1 : ∀ r ∈ rs, r ∈ ds) (h2 : ∀ d ∈ ds, ∃ r ∈ rs, keyOf r = keyOf d) (h3 : (rs.map keyOf).Nodup) :
    ∃ C : List α, rs = C.map K ∧ C.Nodup ∧ ∀ k, k ∈ C ↔ ∃ a, a < n ∧ f a = k := by
  have all : ∀ rs : List D, (∀ r ∈ rs, ∃ x, r = K x) → ∃ C : List α, rs = C.map K := by
    intro rs
    induction rs with
    | nil => exact fun _ => ⟨[], rfl⟩
    | cons r rs ih =>
      intro h
      obtain ⟨x, e⟩ := h r List.mem_cons_self
      obtain ⟨C, e2⟩ := ih fun r hr => h r (List.mem_cons_of_mem _ hr)
      exact ⟨x :: C, by rw [e, e2]; rfl⟩
  obtain ⟨C, rfl⟩ := all rs fun r hr => let ⟨a, _, e⟩ := (hds r).mp (h1 r hr); ⟨f a, e⟩
  refine ⟨C, rfl, ?_, fun k => ?_⟩
  · rw [List.map_map] at h3
    have h3 : List.Pairwise (· ≠ ·) (C.map (keyOf ∘ K)) := h3
    rw [List.pairwise_map] at h3
    exact h3.imp fun hne e => hne (by rw [e])
  · constructor
    · intro hk
      obtain ⟨a, ha, e⟩ := (hds _).mp (h1 (K k) (List.mem_map.mpr ⟨k, hk, rfl⟩))
      exact ⟨a, ha, (hi _ _ e).symm⟩
    · rintro ⟨a, ha, rfl⟩
      obtain ⟨r, hr, e⟩ := h2 (K (f a)) ((hds _).mpr ⟨a, ha, rfl⟩)
      obtain ⟨x, hx, rfl⟩ := List.mem_map.mp hr
      obtain ⟨b, hb, eb⟩ := (hds _).mp (h1 (K x) hr)
      have eb := hi _ _ eb
      rw [eb] at e hx
      have := hi _ _ (key_inj (hK b hb) (hK a ha) e)
      rw [← this]
      exact hx
theorem mem_any {l : List Int} {x : Int} : x ∈ l ↔ l.any (· == x) = true := by simp
theorem nodup_step {acc : List Int} (h : acc.Nodup) (k : Int) : (step_dedup acc k).Nodup := by
  unfold step_dedup
  split
  · exact h
  · rename_i hk
    rw [List.nodup_append]
    refine ⟨h, by simp, fun a ha b hb => ?_⟩
    have : b = k := by simpa using hb
    subst this
    rintro rfl
    exact hk (List.any_eq_true.mpr ⟨a, ha, by simp⟩)
theorem firstMet_nd (val : Nat → Int) : ∀ n, (firstMet val n).Nodup
  | 0 => List.nodup_nil
  | n + 1 => by
    rw [firstMet_succ]
    exact nodup_step (firstMet_nd val n) _
theorem firstMet_vals {κ : Nat → Nat} {n : Nat} : M.Vals (· < n) (fun a => (κ a : Int)) (firstMet (fun i => (((List.range n).map fun a => ((κ a : Nat) : Int)).getD i 0)) ((List.range n).map fun a => ((κ a : Nat) : Int)).length) := by
  refine ⟨firstMet_nd _ _, fun x => ?_⟩
  have h := firstMet_any (fun i => (((List.range n).map fun a => ((κ a : Nat) : Int)).getD i 0)) ((List.range n).map fun a => ((κ a : Nat) : Int)).length x
  rw [List.length_map, List.length_range] at h ⊢
  have h2 : x ∈ firstMet (fun i => (((List.range n).map fun a => ((κ a : Nat) : Int)).getD i 0)) n ↔ x ∈ (List.range n).map (fun i => (((List.range n).map fun a => ((κ a : Nat) : Int)).getD i 0)) := by
    rw [mem_any, mem_any, h]
  rw [h2, List.mem_map]
  constructor
  · rintro ⟨a, ha, e⟩
    have ha := List.mem_range.mp ha
    refine ⟨a, ha, ?_⟩
    rw [← e, List.getD_eq_getElem?_getD, List.getElem?_map, List.getElem?_range ha]
    rfl
  · rintro ⟨a, ha, e⟩
    refine ⟨a, List.mem_range.mpr ha, ?_⟩
    rw [← e, List.getD_eq_getElem?_getD, List.getElem?_map, List.getElem?_range ha]
    rfl
end DL
/-! Q6: _law_classes: rows of one class write the same. -/
namespace DL.K81
open PySem PySem.Spec PyProof.Rows L2 DL
local macro_rules
  | `(tactic| infer_instance) => `(tactic| first
    | with_reducible refine x_seq ?_
    | with_reducible refine x_asgN ?_
    | with_reducible refine x_asg ?_
    | with_reducible refine x_drop ?_
    | with_reducible refine x_ret ?_
    | with_reducible refine x_if ?_
    | with_reducible refine x_par ?_
    | with_reducible refine x_par3 ?_
    | with_reducible refine x_next ?_
    | with_reducible refine x_break ?_
    | with_reducible refine x_cont ?_
    | ((with_reducible refine x_var ?_); refine look rfl ?_)
    | with_reducible refine x_c ?_
    | with_reducible refine x_op ?_
    | with_reducible refine x_un ?_
    | with_reducible refine x_nil ?_
    | with_reducible refine x_cons ?_
    | with_reducible refine x_star ?_
    | with_reducible refine x_cb ?_
    | with_reducible refine x_bm ?_
    | with_reducible refine x_call ?_
    | with_reducible refine x_callK ?_
    | with_reducible refine x_tup ?_
    | with_reducible refine x_lst ?_
    | with_reducible refine x_newD ?_
    | with_reducible refine x_test ?_
    | with_reducible refine x_not ?_
    | with_reducible refine x_and ?_
    | with_reducible refine x_or ?_
    | with_reducible refine x_ifE ?_
    | with_reducible refine x_notV ?_
    | with_reducible refine x_yes ?_
    | with_reducible refine x_gname ?_
    | with_reducible refine x_gnil ?_
    | with_reducible refine x_gcons ?_
    | with_reducible refine x_gtup rfl ?_
    | with_reducible refine x_gsub ?_
    | with_reducible refine x_it ?_
    | with_reducible refine x_range1 ?_
    | with_reducible refine x_enum ?_
    | with_reducible refine x_lc ?_
    | with_reducible refine x_dc ?_
    | with_reducible refine x_for ?_
    | with_reducible refine e_rev ?_
    | with_reducible refine x_arg1 ?_
    | with_reducible refine x_arg2 ?_
    | with_reducible refine x_arg3 ?_
    | with_reducible refine x_isB ?_
    | with_reducible refine x_isI ?_
    | with_reducible refine x_items ?_
    | with_reducible refine x_values ?_
    | with_reducible refine x_keys ?_
    | with_reducible refine x_listV ?_
    | with_reducible refine x_sumV ?_
    | with_reducible refine x_listItems ?_
    | with_reducible refine x_sortItems ?_
    | with_reducible refine x_zipL ?_
    | with_reducible refine x_lenSetI ?_
    | with_reducible refine x_sortSet ?_
    | with_reducible refine x_isI' ?_
    | with_reducible refine x_dpN ?_
    | with_reducible refine x_dpC ?_
    | with_reducible refine x_slice ?_
    | with_reducible refine x_noPart ?_
    | with_reducible refine x_part ?_
    | with_reducible refine x_listR2 ?_
    | with_reducible refine x_range2 ?_
    | ((with_reducible refine x_augI ?_); refine augK rfl ?_))
section
abbrev lbD (x : Str × Nat) : D := .tup [.str x.1, nD x.2]
abbrev kyD (x : Nat × List Nat) : D := .tup [nD x.1, .tup (il x.2)]
theorem ky_pl (x : Nat × List Nat) : plB (kyD x) = true := by
  unfold kyD
  rw [plB, plBs, plBs, plB, il_pl]
  rfl
theorem ky_inj {x y : Nat × List Nat} (h : kyD x = kyD y) : x = y := by
  unfold kyD at h
  injection h with h
  injection h with h1 h2
  injection h2 with h2 _
  injection h2 with h2
  exact Prod.ext (nD_inj h1) (il_inj h2)
theorem ky_key (x : Nat × List Nat) : keyOf (kyD x) = some (.tup [.num (x.1 : Int), .tup (x.2.map fun n : Nat => NestedKey.num (n : Int))]) := by
  show (keysOf [nD x.1, .tup (il x.2)]).map _ = _
  have e2 : keysOf [D.tup (il x.2)] = some [.tup (x.2.map fun n : Nat => NestedKey.num (n : Int))] := by
    show (match (keysOf (il x.2)).map NestedKey.tup, keysOf [] with | some k, some ks => some (k :: ks) | _, _ => none) = _
    rw [keysOf_il]
    rfl
  show (match keyOf (nD x.1), keysOf [D.tup (il x.2)] with | some k, some ks => some (k :: ks) | _, _ => none).map _ = _
  rw [e2]
  rfl
theorem ky_depth (x : Nat × List Nat) : (NestedKey.tup [.num (x.1 : Int), .tup (x.2.map fun n : Nat => NestedKey.num (n : Int))]).depth ≤ 8 := by
  have := depthAll_num x.2
  simp only [NestedKey.depth, NestedKey.depthAll]
  omega
theorem key_ky : KeyFn kyD where
  eq := fun a b => by
    unfold keyEq
    by_cases h : a = b
    · subst h; simp
    · rw [decide_eq_false h, decide_eq_false]
      intro z
      exact h (ky_inj (key_inj (ky_pl a) (ky_pl b) z))
  ok := fun a => by
    show (match keyOf (kyD a) with | some k => decide (k.depth ≤ 8) | none => false) = true
    rw [ky_key]
    exact decide_eq_true (ky_depth a)
  al := .inl fun a => ⟨_, rfl⟩
theorem rows_of {rows : Sheet} (hg : Good rows) {a : Nat} {p : Str × List Nat} (h : rows[a]? = some p) : tgs (M.gr rows) a = p.1 ∧ M.fld (M.gr rows) a = p.2 ∧ p.1 ≠ "?" ∧ p.2.length ≤ 8 ∧ ∀ f ∈ p.2, f < rows.length := by
  have h' : M.gr rows a = some (p.1, p.2) := h
  exact ⟨tgs_of h', M.fld_of h', tag_q _ (hg.tag a _ _ h), (hg.ok a _ _ h).2, (hg.ok a _ _ h).1⟩
theorem fields_run {t : Str} {x : D} {G : Gp} {q : QD} (h : t ≠ "?") (k : q x G) : SLfields [.tup [.str t, x]] G q := ⟨t, x, rfl, by rw [if_neg h]; exact k⟩
theorem label_run {t : Str} {x : D} {G : Gp} {q : QD} (h : t ≠ "?") (k : q (.str t) G) : SLlabel [.tup [.str t, x]] G q := ⟨t, x, rfl, h, k⟩
theorem e_lenT {ds : List D} {G : Gp} {q : QD} (k : q (nD ds.length) G) : rLen [.tup ds] G q := k
abbrev vl (n : Nat) (κ : Nat → Nat) : List D := (List.range n).map fun a => nD (κ a)
theorem vl_get {n : Nat} {κ : Nat → Nat} {a : Nat} (h : a < n) : (vl n κ)[a]? = some (nD (κ a)) := by
  rw [List.getElem?_map, List.getElem?_range h]
  rfl
theorem vl_ix {n : Nat} {κ : Nat → Nat} {a : Nat} {p : Addr} {G : Gp} {q : QD} (e : G p = some (.lst (vl n κ))) (h : a < n) (k : q (nD (κ a)) G) : rIx (.ref p) (.int (a : Nat)) G q := e_ixL (.inl e) (atI_nat (vl_get h)) k
theorem rows_map {β : Type} {rows : Sheet} {n : Nat} (hn : rows.length = n) {F : Str × List Nat → β} {f : Nat → β} (h : ∀ (a : Nat) p, rows[a]? = some p → F p = f a) : rows.map F = (List.range n).map f := by
  refine List.ext_getElem? fun i => ?_
  rw [List.getElem?_map, List.getElem?_map]
  by_cases hi : i < n
  · rw [List.getElem?_range hi]
    have hi2 : i < rows.length := by omega
    rw [List.getElem?_eq_getElem hi2]
    show some (F rows[i]) = some (f i)
    rw [h i _ (List.getElem?_eq_getElem hi2)]
  · rw [List.getElem?_eq_none (by omega), List.getElem?_eq_none (by rw [List.length_range]; omega)]
    rfl
theorem map_range_mem {n : Nat} {f : Nat → D} {d : D} : d ∈ (List.range n).map f ↔ ∃ a, a < n ∧ d = f a := by
  rw [List.mem_map]
  constructor
  · rintro ⟨a, ha, rfl⟩
    exact ⟨a, List.mem_range.mp ha, rfl⟩
  · rintro ⟨a, ha, rfl⟩
    exact ⟨a, List.mem_range.mpr ha, rfl⟩
theorem nodup_at {α : Type} [DecidableEq α] {C : List α} (nd : C.Nodup) {K : α → D} (hi : ∀ a b, K a = K b → a = b) {x : α} (hx : x ∈ C) : (C.map K)[M.ix C x]? = some (K x) ∧ ∀ j, j < M.ix C x → (C.map K)[j]? ≠ some (K x) := by
  constructor
  · rw [List.getElem?_map, show C[M.ix C x]? = some x from M.get_idx hx]
    rfl
  · intro j hj e
    rw [List.getElem?_map] at e
    obtain ⟨y, hy, e2⟩ := Option.map_eq_some_iff.mp e
    have := hi _ _ e2
    subst this
    have := M.nodup_get nd hy
    have h2 : M.ix C y = j := this
    omega
def SDclasses : SpD := fun ds G q => ∃ rows, ds = [sheetD rows] ∧ Good rows ∧ ∀ p κ G', G p = none → Sx no G G' → G' p = some (.lst (vl rows.length κ)) → (∀ a b, a < rows.length → b < rows.length → (κ a = κ b ↔ M.Bis (M.gr rows) a (M.gr rows) b)) → q (.ref p) G'
theorem rdDclasses (ds : List D) (G : Gp) (q : QD) (h : SDclasses ds G q) : tLclasses SLlabel SLfields { nx := fun _ G' => fin (q .non) G', rt := fun d G' => fin (q d) G' } (startD NLclasses ds) G := by
  obtain ⟨rows, rfl, hg, k⟩ := h
  have hle := hg.le
  have hpos := hg.pos
  have hS := hg.cl
  unfold tLclasses
  repeat infer_instance
  refine i_tup ?_
  refine lc_fn Fr.no trivial rows rowD (fun p => lbD (p.1, p.2.length)) rfl (fun _ _ => trivial) (szl (by omega)) (fun i p G' hp s _ => ⟨_, rfl, fun h hh => ?_⟩) fun p1 G1 hp1 s1 _ e1 => ?_
  · obtain ⟨_, _, hq, _⟩ := rows_of hg hp
    repeat infer_instance
    refine label_run hq ?_
    repeat infer_instance
    refine fields_run hq ?_
    repeat infer_instance
    refine e_lenT ?_
    repeat infer_instance
    refine ⟨sz (by simp), ?_⟩
    have := hh G' Sx.refl trivial
    simpa using this
  let f0 : Nat → Str × Nat := fun a => (tgs (M.gr rows) a, (M.fld (M.gr rows) a).length)
  have er : rows.map (fun p => lbD (p.1, p.2.length)) = (List.range rows.length).map fun a => lbD (f0 a) := rows_map rfl fun a p hp => by
    obtain ⟨h1, h2, _⟩ := rows_of hg hp
    show lbD (p.1, p.2.length) = lbD (tgs (M.gr rows) a, (M.fld (M.gr rows) a).length)
    rw [h1, h2]
  rw [er] at e1
  have f0t : ∀ a, a < rows.length → TagOk (f0 a).1 := fun a ha => tgs_ok hg ha
  refine e_lisK (.inl e1) ⟨by rw [List.length_map, List.length_range]; omega, fun d hd => ?_, sortD_si fun d hd => ?_, fun rs hsort h1 h2 h3 => new_run fun pn G2 hp2 s2 e2 _ => ?_⟩
  · obtain ⟨a, _, rfl⟩ := map_range_mem.mp hd
    exact ⟨⟨_, rfl⟩, _, rfl, by simp [NestedKey.depth, NestedKey.depthAll]⟩
  · obtain ⟨a, _, rfl⟩ := map_range_mem.mp hd
    exact ⟨_, _, rfl⟩
  have lb_inj : ∀ x y : Str × Nat, lbD x = lbD y → x = y := fun x y h => by
    unfold lbD at h
    injection h with h
    injection h with h1 h2
    injection h1 with h1
    injection h2 with h2 _
    exact Prod.ext h1 (nD_inj h2)
  have lb_pl : ∀ a, a < rows.length → plB (lbD (f0 a)) = true := fun a ha => by
    unfold lbD
    rw [plB, plBs, plBs, plBs, plB, tag_ok _ (f0t a ha)]
    rfl
  obtain ⟨C, rfl, ndC, hC⟩ := set_vals (K := lbD) (f := f0) (n := rows.length) lb_pl lb_inj (fun d => map_range_mem) h1 h2 h3
  have rs_pl : plBs (C.map lbD) = true := plBs_all.mpr fun d hd => by
    obtain ⟨a, ha, rfl⟩ := map_range_mem.mp (h1 d hd)
    exact lb_pl a ha
  have rs_dep : deps (C.map lbD) ≤ 1 := deps_le fun d hd => by
    obtain ⟨x, _, rfl⟩ := List.mem_map.mp hd
    simp [dep, deps, nD]
  repeat infer_instance
  refine i_tup ?_
  refine lc_fn Fr.no trivial rows rowD (fun p => nD (M.ix C (p.1, p.2.length))) rfl (fun _ _ => trivial) (szl (by omega)) (fun i p G' hp s _ => ⟨_, rfl, fun h hh => ?_⟩) fun p3 G3 hp3 s3 _ e3 => ?_
  · obtain ⟨ht, hf, hq, _⟩ := rows_of hg hp
    have hi : i < rows.length := (List.getElem?_eq_some_iff.mp hp).1
    have hmem : (p.1, p.2.length) ∈ C := (hC _).mpr ⟨i, hi, by show (tgs (M.gr rows) i, (M.fld (M.gr rows) i).length) = _; rw [ht, hf]⟩
    have e2' := s _ _ id e2
    repeat infer_instance
    refine ⟨t_lst (.inl e2'), ?_⟩
    repeat infer_instance
    refine label_run hq ?_
    repeat infer_instance
    refine fields_run hq ?_
    repeat infer_instance
    refine e_lenT ?_
    repeat infer_instance
    refine ⟨sz (by simp), ?_⟩
    obtain ⟨x1, x2⟩ := nodup_at ndC lb_inj hmem
    have x0 : D.tup [.str p.1, nD (il p.2).length] = lbD (p.1, p.2.length) := by simp
    repeat infer_instance
    rw [show [D.tup [D.str p.1, nD (il p.2).length]] = [lbD (p.1, p.2.length)] from by rw [x0]]
    refine e_indexL e2' rs_pl (by omega) ?_ ?_ x1 x2 (hh G' Sx.refl trivial)
    · have := lb_pl i hi
      rwa [show f0 i = (p.1, p.2.length) from by show (tgs (M.gr rows) i, (M.fld (M.gr rows) i).length) = _; rw [ht, hf]] at this
    · simp [dep, deps, nD]
  have er3 : rows.map (fun p => nD (M.ix C (p.1, p.2.length))) = vl rows.length (fun a => M.ix C (f0 a)) := rows_map rfl fun a p hp => by
    obtain ⟨h1, h2, _⟩ := rows_of hg hp
    show nD (M.ix C (p.1, p.2.length)) = nD (M.ix C (tgs (M.gr rows) a, (M.fld (M.gr rows) a).length))
    rw [h1, h2]
  rw [er3] at e3
  have hC' : ∀ k, k ∈ C ↔ ∃ a, a < rows.length ∧ f0 a = k := hC
  have R0 : M.Ref (M.gr rows) (· < rows.length) (fun a => M.ix C (f0 a)) := M.Ref.start2 fun a b sa sb => by
    rw [M.idx_iff hC' sa]
    show (tgs (M.gr rows) a, (M.fld (M.gr rows) a).length) = (tgs (M.gr rows) b, (M.fld (M.gr rows) b).length) ↔ _
    rw [Prod.mk.injEq, tgs_tg hS sa sb]
  have V0 := M.vals_idx (S := (· < rows.length)) ndC hC'
  repeat infer_instance
  refine ⟨⟨by show -(2 ^ 62) ≤ (((rows.map rowD).length : Nat) : Int); omega, by show (((rows.map rowD).length : Nat) : Int) < 2 ^ 62; rw [List.length_map]; omega⟩, ?_⟩
  rw [show ((((rows.map rowD).length : Nat) : Int)).toNat = rows.length from by rw [List.length_map]; omega]
  refine ⟨fun i σ H => ∃ (κ : Nat → Nat) (pf : Addr) (cn : Nat) (x1 x2 x4 x5 x6 x7 x8 x9 : Option D), σ = [some (sheetD rows), x1, x2, some (.ref pf), x4, x5, x6, x7, x8, x9] ∧ Sx no G H ∧ G pf = none ∧ H pf = some (.lst (vl rows.length κ)) ∧ M.Ref (M.gr rows) (· < rows.length) κ ∧ M.Vals (· < rows.length) κ (List.range cn) ∧ i < cn,
    fin.of ⟨_, p3, _, _, _, _, _, _, _, _, _, rfl, (s1.trans s2).trans s3, (s1.trans s2).bk hp3, e3, R0, V0, by have := V0.pos hpos; rwa [List.length_range] at this⟩, fun _ _ _ _ => trivial, fun i d σ H hd ⟨κ, pf, cn, x1, x2, x4, x5, x6, x7, x8, x9, hσ, sH, gpf, epf, hR, hV, hcn⟩ => ?_, fun σ H ⟨κ, pf, cn, x1, x2, x4, x5, x6, x7, x8, x9, hσ, sH, gpf, epf, hR, hV, hcn⟩ => ?_⟩
  · subst hσ
    obtain ⟨hi, rfl⟩ := rng_get hd
    have hvl := hV.le_n
    rw [List.length_range] at hvl
    let ky : Nat → Nat × List Nat := fun a => (κ a, (M.fld (M.gr rows) a).map κ)
    have eky : ∀ (a : Nat) p, rows[a]? = some p → kyD (κ a, p.2.map κ) = kyD (ky a) := fun a p hp => by
      obtain ⟨_, h2, _⟩ := rows_of hg hp
      show _ = kyD (κ a, (M.fld (M.gr rows) a).map κ)
      rw [h2]
    repeat infer_instance
    refine e_isSeqT ?_
    refine lc_fn Fr.no trivial (List.range rows.length) (fun a => .tup [nD a, rowD (rows.getD a ("", []))]) (fun a => kyD (ky a)) ?_ (fun _ _ => trivial) (szl (by rw [List.length_range]; omega)) (fun j a G' ha s _ => ⟨_, rfl, fun h hh => ?_⟩) fun p4 G4 hp4 s4 _ e4 => ?_
    · refine List.ext_getElem? fun j => ?_
      rw [enumD_get, List.getElem?_map, List.getElem?_map]
      by_cases hj : j < rows.length
      · rw [List.getElem?_range hj, List.getElem?_eq_getElem hj]
        show some (D.tup [D.int (j : Nat), rowD rows[j]]) = some (D.tup [nD j, rowD (rows.getD j ("", []))])
        rw [List.getD_eq_getElem?_getD, List.getElem?_eq_getElem hj]
        rfl
      · rw [List.getElem?_eq_none (by omega), List.getElem?_eq_none (by rw [List.length_range]; omega)]
        rfl
    · have hj := (List.getElem?_eq_some_iff.mp ha).1
      rw [List.length_range] at hj
      rw [List.getElem?_range hj] at ha
      cases ha
      obtain ⟨⟨t, fs⟩, hp⟩ : ∃ p, rows[j]? = some p := ⟨_, List.getElem?_eq_getElem hj⟩
      obtain ⟨ht, hf, hq, h8, hlt⟩ := rows_of hg hp
      have hgd : rows.getD j ("", []) = (t, fs) := by rw [List.getD_eq_getElem?_getD, hp]; rfl
      rw [hgd]
      repeat infer_instance
      refine vl_ix (s _ _ id epf) hj ?_
      repeat infer_instance
      refine fields_run hq ?_
      refine i_tup ?_
      refine lc_fn Fr.no trivial fs nD (fun x => nD (κ x)) rfl (fun _ _ => trivial) (szl (by have h8 : fs.length ≤ 8 := h8; omega)) (fun z x G5 hx s5 _ => ⟨_, rfl, fun h5 hh5 => ?_⟩) fun p5 G5 hp5 s5 _ e5 => ?_
      · repeat infer_instance
        exact vl_ix (s5 _ _ id (s _ _ id epf)) (hlt x (List.mem_of_getElem? hx)) (hh5 G5 Sx.refl trivial)
      · repeat infer_instance
        refine e_tuple (.inl e5) ?_
        repeat infer_instance
        refine ⟨sz (by simp), ?_⟩
        have := hh G5 s5 trivial
        rw [← eky j _ hp] at this
        simpa [Function.comp_def, kyD] using this
    · have epf4 := s4 _ _ id epf
      repeat infer_instance
      refine e_lisK (.inl e4) ⟨by rw [List.length_map, List.length_range]; omega, fun d hd => ?_, sortD_it fun d hd => ?_, fun rs hsort h1 h2 h3 => new_run fun pn G5 hp5 s5 e5 _ => ?_⟩
      · obtain ⟨a, _, rfl⟩ := map_range_mem.mp hd
        exact ⟨⟨_, rfl⟩, _, ky_key _, ky_depth _⟩
      · obtain ⟨a, _, rfl⟩ := map_range_mem.mp hd
        exact ⟨_, _, rfl⟩
      obtain ⟨C2, rfl, ndC2, hC2⟩ := set_vals (K := kyD) (f := ky) (n := rows.length) (fun a _ => ky_pl _) (fun a b => ky_inj) (fun d => map_range_mem) h1 h2 h3
      have V2 := M.vals_idx (S := (· < rows.length)) ndC2 hC2
      have c2l := V2.le_n
      rw [List.length_range] at c2l
      have c2p := V2.pos hpos
      rw [List.length_range] at c2p
      have nx : M.Nxt (M.gr rows) (· < rows.length) κ (fun a => M.ix C2 (ky a)) := fun a b sa sb => by
        refine (M.idx_iff hC2 sa).trans ?_
        show (κ a, (M.fld (M.gr rows) a).map κ) = (κ b, (M.fld (M.gr rows) b).map κ) ↔ _
        rw [Prod.mk.injEq]
      repeat infer_instance
      refine e_isSeq (.inl e5) ?_
      refine lc_fn Fr.no trivial C2.zipIdx (fun x => .tup [nD x.2, kyD x.1]) (fun x => .tup [kyD x.1, nD x.2]) ?_ (fun G' s => .inl (s pn _ id e5)) (szl (by rw [List.length_zipIdx]; omega)) (fun z x G' hx s _ => ⟨_, rfl, fun h hh => ?_⟩) fun p6 G6 hp6 s6 _ e6 => ?_
      · refine List.ext_getElem? fun j => ?_
        rw [enumD_get, List.getElem?_map, List.getElem?_map, List.getElem?_zipIdx, Option.map_map, Option.map_map]
        cases C2[j]? with
        | none => rfl
        | some a =>
          show some (D.tup [D.int (j : Nat), kyD a]) = some (D.tup [nD (0 + j), kyD a])
          rw [Nat.zero_add]
          rfl
      · repeat infer_instance
        exact ⟨sz (by simp), hh G' Sx.refl trivial⟩
      repeat infer_instance
      refine x_arg1 ?_
      show (match G6 p6 with
        | some (.lst ds) => _
        | some (.rol ds) => _
        | some (.ftp ds) => _
        | _ => False)
      rw [e6]
      refine ⟨kd kyD nD C2.zipIdx, by unfold kd; rw [List.map_map]; rfl, .inr ⟨?_, fun d hd => ?_⟩, new_run fun pd G7 hp7 s7 e7 _ => ?_⟩
      · intro z
        have := congrArg List.length z
        rw [kd_len, List.length_zipIdx] at this
        simp at this
        rw [this] at c2p
        exact absurd c2p (by simp)
      · rw [kd_keys] at hd
        obtain ⟨x, _, rfl⟩ := List.mem_map.mp hd
        exact ⟨⟨_, rfl⟩, _, ky_key _, ky_depth _⟩
      have e7' : G7 pd = some (.dic (kd kyD nD C2.zipIdx)) := by
        rw [e7, dputs_kd key_ky, aputs_nodup (by simpa using ndC2)]
      have e4' := s7 _ _ id (s6 _ _ id (s5 _ _ id e4))
      have epf7 := s7 _ _ id (s6 _ _ id (s5 _ _ id epf4))
      repeat infer_instance
      refine i_lst e4' ?_
      refine lc_fn Fr.no trivial (List.range rows.length) (fun a => kyD (ky a)) (fun a => nD (M.ix C2 (ky a))) rfl (fun G' s => .inl (s p4 _ id e4')) (szl (by rw [List.length_range]; omega)) (fun z a G' ha s _ => ⟨_, rfl, fun h hh => ?_⟩) fun p8 G8 hp8 s8 _ e8 => ?_
      · have hz := (List.getElem?_eq_some_iff.mp ha).1
        rw [List.length_range] at hz
        rw [List.getElem?_range hz] at ha
        cases ha
        repeat infer_instance
        refine e_ixD (.inl (s _ _ id e7')) (kd_fits key_ky _ (ky z)) ?_ (hh G' Sx.refl trivial)
        have := kd_get (V := nD) key_ky C2.zipIdx (ky z)
        rw [aget_zipIdx ((hC2 _).mpr ⟨z, hz, rfl⟩)] at this
        exact this
      have sT := ((((sH.trans s4).trans s5).trans s6).trans s7).trans s8
      repeat infer_instance
      refine e_lenD (.inl (s8 _ _ id e7')) ?_
      repeat infer_instance
      refine e_lisK (.inl (s8 _ _ id epf7)) ⟨(List.range rows.length).map fun a => ((κ a : Nat) : Int), by rw [List.map_map]; rfl, by rw [List.length_map, List.length_range]; omega, ?_⟩
      refine e_eqInt ?_
      repeat infer_instance
      have VF := firstMet_vals (κ := κ) (n := rows.length)
      rw [kd_len, List.length_zipIdx]
      generalize firstMet (fun i => (((List.range rows.length).map fun a => ((κ a : Nat) : Int)).getD i 0)) ((List.range rows.length).map fun a => ((κ a : Nat) : Int)).length = FM at VF ⊢
      have hFM : FM.length = cn := by
        have h1 := VF.le hV fun a b _ _ e => M.int_iff.mpr e
        have h2 := hV.le VF fun a b _ _ e => M.int_iff.mp e
        rw [List.length_range] at h1 h2
        omega
      rw [hFM]
      have sp8 : G p8 = none := ((((sH.trans s4).trans s5).trans s6).trans s7).bk hp8
      by_cases hlen : ((C2.length : Nat) : Int) = ((cn : Nat) : Int)
      · rw [decide_eq_true hlen, if_pos (by decide)]
        repeat infer_instance
        refine fin.of (k p8 _ G8 sp8 sT e8 fun a b sa sb => hR.done hS nx hV V2 ?_ sa sb)
        rw [List.length_range, List.length_range]
        omega
      · rw [decide_eq_false hlen, if_neg (by decide)]
        repeat infer_instance
        have hle2 := hV.le V2 fun a b sa sb e => ((nx a b sa sb).mp e).1
        rw [List.length_range, List.length_range] at hle2
        exact fin.of ⟨_, p8, C2.length, _, _, _, _, _, _, _, _, rfl, sT, sp8, e8, hR.next hS nx, V2, by omega⟩
  · subst hσ
    have hvl := hV.le_n
    rw [List.length_range] at hvl
    rw [List.length_map, List.length_range] at hcn
    omega
end
end DL.K81
/-! Q7: _law_least, _law_first_paths, _law_row_at. -/
namespace DL.K81
open PySem PySem.Spec PyProof.Rows L2 DL
local macro_rules
  | `(tactic| infer_instance) => `(tactic| first
    | with_reducible refine x_seq ?_
    | with_reducible refine x_asgN ?_
    | with_reducible refine x_asg ?_
    | with_reducible refine x_drop ?_
    | with_reducible refine x_ret ?_
    | with_reducible refine x_if ?_
    | with_reducible refine x_par ?_
    | with_reducible refine x_par3 ?_
    | with_reducible refine x_next ?_
    | with_reducible refine x_break ?_
    | with_reducible refine x_cont ?_
    | ((with_reducible refine x_var ?_); refine look rfl ?_)
    | with_reducible refine x_c ?_
    | with_reducible refine x_op ?_
    | with_reducible refine x_un ?_
    | with_reducible refine x_nil ?_
    | with_reducible refine x_cons ?_
    | with_reducible refine x_star ?_
    | with_reducible refine x_cb ?_
    | with_reducible refine x_bm ?_
    | with_reducible refine x_call ?_
    | with_reducible refine x_callK ?_
    | with_reducible refine x_tup ?_
    | with_reducible refine x_lst ?_
    | with_reducible refine x_newD ?_
    | with_reducible refine x_test ?_
    | with_reducible refine x_not ?_
    | with_reducible refine x_and ?_
    | with_reducible refine x_or ?_
    | with_reducible refine x_ifE ?_
    | with_reducible refine x_notV ?_
    | with_reducible refine x_yes ?_
    | with_reducible refine x_gname ?_
    | with_reducible refine x_gnil ?_
    | with_reducible refine x_gcons ?_
    | with_reducible refine x_gtup rfl ?_
    | with_reducible refine x_gsub ?_
    | with_reducible refine x_it ?_
    | with_reducible refine x_range1 ?_
    | with_reducible refine x_enum ?_
    | with_reducible refine x_lc ?_
    | with_reducible refine x_dc ?_
    | with_reducible refine x_for ?_
    | with_reducible refine e_rev ?_
    | with_reducible refine x_arg1 ?_
    | with_reducible refine x_arg2 ?_
    | with_reducible refine x_arg3 ?_
    | with_reducible refine x_isB ?_
    | with_reducible refine x_isI ?_
    | with_reducible refine x_items ?_
    | with_reducible refine x_values ?_
    | with_reducible refine x_keys ?_
    | with_reducible refine x_listV ?_
    | with_reducible refine x_sumV ?_
    | with_reducible refine x_listItems ?_
    | with_reducible refine x_sortItems ?_
    | with_reducible refine x_zipL ?_
    | with_reducible refine x_lenSetI ?_
    | with_reducible refine x_sortSet ?_
    | with_reducible refine x_isI' ?_
    | with_reducible refine x_dpN ?_
    | with_reducible refine x_dpC ?_
    | with_reducible refine x_slice ?_
    | with_reducible refine x_noPart ?_
    | with_reducible refine x_part ?_
    | with_reducible refine x_listR2 ?_
    | with_reducible refine x_range2 ?_
    | ((with_reducible refine x_augI ?_); refine augK rfl ?_))
section
theorem e_extT {G : Gp} {a : Addr} {ds zs : List D} {q : QD} (h : G a = some (.lst ds)) (hl : ds.length + zs.length ≤ sizeLine) (k : q .non (gup G a (.lst (ds ++ zs)))) : rExtendA (.ref a) [.tup zs] G q := by
  show (match G a with | some (.lst ds) => ds.length + zs.length ≤ sizeLine ∧ q .non (gup G a (.lst (ds ++ zs))) | _ => False)
  rw [h]
  exact ⟨hl, k⟩
def SDleast : SpD := fun ds G q => ∃ rows r, ds = [sheetD rows, nD r] ∧ Good rows ∧ r < rows.length ∧ ∀ L G', Sx no G G' → M.IsLeast (M.gr rows) r L → q (sheetD L) G'
theorem rdDleast (ds : List D) (G : Gp) (q : QD) (h : SDleast ds G q) : tLleast SDclasses SLfields { nx := fun _ G' => fin (q .non) G', rt := fun d G' => fin (q d) G' } (startD NLleast ds) G := by
  obtain ⟨rows, r, rfl, hg, hr, k⟩ := h
  have hle := hg.le
  have hpos := hg.pos
  have hS := hg.cl
  have hrw := hg.rw hr G
  unfold tLleast
  repeat infer_instance
  refine ⟨rows, rfl, hg, fun pc κ G1 hpc s1 e1 hk => ?_⟩
  repeat infer_instance
  refine new_run fun pk G2 hpk s2 e2 _ => ?_
  repeat infer_instance
  refine ⟨sz (by simp), new_run fun po G3 hpo s3 e3 _ => ?_⟩
  repeat infer_instance
  refine ⟨sz (by simp), new_run fun pt G4 hpt s4 e4 _ => ?_⟩
  repeat infer_instance
  refine ⟨sz (by simp), ?_⟩
  repeat infer_instance
  have nkc : pk ≠ pc := by rintro rfl; rw [e1] at hpk; cases hpk
  have noc : po ≠ pc := by rintro rfl; rw [s2 _ _ id e1] at hpo; cases hpo
  have nok : po ≠ pk := by rintro rfl; rw [e2] at hpo; cases hpo
  have ntc : pt ≠ pc := by rintro rfl; rw [s3 _ _ id (s2 _ _ id e1)] at hpt; cases hpt
  have ntk : pt ≠ pk := by rintro rfl; rw [s3 _ _ id e2] at hpt; cases hpt
  have nto : pt ≠ po := by rintro rfl; rw [e3] at hpt; cases hpt
  have gk : G1 pk = none := hpk
  have go : G1 po = none := s2.bk hpo
  have gt : G1 pt = none := (s2.trans s3).bk hpt
  have b0 : M.mea (M.fld (M.gr rows)) κ rows.length [r] [] ≤ 1 + 8 * rows.length := by
    have := M.left_bound (κ := κ) hrw.arity [] (List.range rows.length)
    unfold M.mea
    simp only [List.length_singleton, List.length_range] at this ⊢
    omega
  have fS : ∀ a, a < rows.length → ∀ x ∈ M.fld (M.gr rows) a, x < rows.length := fun a ha => hS.fld ha
  refine ⟨fun m σ H => ∃ (t o : List Nat) (x6 : Option D), σ = [some (sheetD rows), some (nD r), some (.ref pc), some (.ref pk), some (.ref po), some (.ref pt), x6, none, none, none] ∧ Sx no G1 H ∧ H pc = some (.lst (vl rows.length κ)) ∧ H pk = some (.dic (kd nD nD (o.map κ).zipIdx)) ∧ H po = some (.lst (il o)) ∧ H pt = some (.lst (il t.reverse)) ∧ M.Come (M.fld (M.gr rows)) κ r t o ∧ m = M.mea (M.fld (M.gr rows)) κ rows.length t o ∧ m ≤ 1 + 8 * rows.length,
    ⟨_, fin.of ⟨[r], [], none, rfl, (s2.trans s3).trans s4, s4 _ _ id (s3 _ _ id (s2 _ _ id e1)), s4 _ _ id (s3 _ _ id e2), s4 _ _ id e3, e4, .start, rfl, b0⟩⟩, fun m σ H ⟨t, o, x6, hσ, sH, ec, ek, eo, et, hc, hm, hb⟩ => ?_⟩
  subst hσ
  repeat infer_instance
  refine ⟨sz (by simp), new_run fun p0 H0 hp0 s0 ep0 _ => ?_⟩
  have ec0 := s0 _ _ id ec
  have ek0 := s0 _ _ id ek
  have eo0 := s0 _ _ id eo
  have et0 := s0 _ _ id et
  have sH0 := sH.trans s0
  obtain ⟨tS, oS⟩ := hc.all (S := (· < rows.length)) hr fS
  have ond : (o.map κ).Nodup := hc.nodup
  have ool : o.length ≤ rows.length := by
    have hnd : o.Nodup := by
      have h3 : List.Pairwise (· ≠ ·) (o.map κ) := ond
      rw [List.pairwise_map] at h3
      exact h3.imp fun hne e => hne (by rw [e])
    exact M.nodup_le hnd oS
  refine e_neNilI et0 ep0 ?_
  cases t with
  | cons a t =>
    repeat infer_instance
    rw [if_pos (by simp)]
    repeat infer_instance
    refine ⟨t_lst (.inl et0), ?_⟩
    repeat infer_instance
    rw [show il (a :: t).reverse = il t.reverse ++ [nD a] from by simp] at et0
    refine e_pop et0 ?_
    have sa : a < rows.length := tS a List.mem_cons_self
    have s5 : Sx no G1 (gup H0 pt (.lst (il t.reverse))) := sH0.gup gt
    have ec5 : gup H0 pt (.lst (il t.reverse)) pc = _ := (gup_ne (Ne.symm ntc)).trans ec0
    have ek5 : gup H0 pt (.lst (il t.reverse)) pk = _ := (gup_ne (Ne.symm ntk)).trans ek0
    have eo5 : gup H0 pt (.lst (il t.reverse)) po = _ := (gup_ne (Ne.symm nto)).trans eo0
    have et5 : gup H0 pt (.lst (il t.reverse)) pt = _ := gup_same
    generalize gup H0 pt (.lst (il t.reverse)) = H5 at s5 ec5 ek5 eo5 et5 ⊢
    repeat infer_instance
    refine vl_ix ec5 sa ?_
    repeat infer_instance
    refine e_inD (.inl ek5) (kd_fits key_nat _ (κ a)) ?_
    rw [kd_get key_nat, Option.isSome_map, aget_isSome, show ((o.map κ).zipIdx).map (·.1) = o.map κ from by simp]
    repeat infer_instance
    by_cases ha : κ a ∈ o.map κ
    · rw [decide_eq_true ha, if_neg (by decide)]
      repeat infer_instance
      exact ⟨_, by rw [hm]; exact M.mea_skip, fin.of ⟨t, o, _, rfl, s5, ec5, ek5, eo5, et5, hc.skip ha, rfl, by have := M.mea_skip (f := M.fld (M.gr rows)) (κ := κ) (N := rows.length) (a := a) (t := t) (o := o); omega⟩⟩
    · rw [decide_eq_false ha, if_pos (by decide)]
      repeat infer_instance
      refine e_len (.inl eo5) ?_
      repeat infer_instance
      refine vl_ix ec5 sa ?_
      refine e_setD ek5 (kd_fits key_nat _ (κ a)) (by rw [kd_len, List.length_zipIdx, List.length_map]; exact szl (by omega)) ?_
      have zs : (o.map κ).zipIdx ++ [(κ a, o.length)] = ((o ++ [a]).map κ).zipIdx := by rw [List.map_append, List.zipIdx_append]; simp
      rw [List.length_map, show (D.int (o.length : Nat)) = nD o.length from rfl, kd_put key_nat, aput_new (aget_none.mpr (by simpa using ha)), zs]
      have s6 : Sx no G1 (gup H5 pk (.dic (kd nD nD ((o ++ [a]).map κ).zipIdx))) := s5.gup gk
      have ec6 : gup H5 pk (.dic (kd nD nD ((o ++ [a]).map κ).zipIdx)) pc = _ := (gup_ne (Ne.symm nkc)).trans ec5
      have ek6 : gup H5 pk (.dic (kd nD nD ((o ++ [a]).map κ).zipIdx)) pk = _ := gup_same
      have eo6 : gup H5 pk (.dic (kd nD nD ((o ++ [a]).map κ).zipIdx)) po = _ := (gup_ne nok).trans eo5
      have et6 : gup H5 pk (.dic (kd nD nD ((o ++ [a]).map κ).zipIdx)) pt = _ := (gup_ne ntk).trans et5
      generalize gup H5 pk (.dic (kd nD nD ((o ++ [a]).map κ).zipIdx)) = H6 at s6 ec6 ek6 eo6 et6 ⊢
      repeat infer_instance
      refine ⟨t_lst (.inl eo6), ?_⟩
      repeat infer_instance
      refine e_app eo6 (by rw [List.length_map]; exact szl (by omega)) ?_
      rw [show il o ++ [nD a] = il (o ++ [a]) from by simp]
      have s7 : Sx no G1 (gup H6 po (.lst (il (o ++ [a])))) := s6.gup go
      have ec7 : gup H6 po (.lst (il (o ++ [a]))) pc = _ := (gup_ne (Ne.symm noc)).trans ec6
      have ek7 : gup H6 po (.lst (il (o ++ [a]))) pk = _ := (gup_ne (Ne.symm nok)).trans ek6
      have eo7 : gup H6 po (.lst (il (o ++ [a]))) po = _ := gup_same
      have et7 : gup H6 po (.lst (il (o ++ [a]))) pt = _ := (gup_ne nto).trans et6
      generalize gup H6 po (.lst (il (o ++ [a]))) = H7 at s7 ec7 ek7 eo7 et7 ⊢
      repeat infer_instance
      refine ⟨t_lst (.inl et7), ?_⟩
      repeat infer_instance
      obtain ⟨tt, fs, ea, hfs, h8⟩ := hg.row sa
      have tq := tag_q tt (hg.tag _ _ _ ea)
      have hfl : M.fld (M.gr rows) a = fs := M.fld_of ea
      refine sheet_ix ea ?_
      repeat infer_instance
      refine fields_run tq ?_
      dsimp only
      repeat infer_instance
      have hm2 : M.mea (M.fld (M.gr rows)) κ rows.length (M.fld (M.gr rows) a ++ t) (o ++ [a]) < m := by rw [hm]; exact M.mea_new ha sa
      have tl : t.length ≤ m := by
        rw [hm]
        unfold M.mea
        rw [List.length_cons]
        omega
      refine e_extT et7 ?_ ?_
      · rw [sizeLine_eq, List.length_map, List.length_reverse, List.length_reverse, List.length_map]
        omega
      · rw [show il t.reverse ++ (il fs).reverse = il (M.fld (M.gr rows) a ++ t).reverse from by rw [hfl]; simp]
        exact ⟨_, hm2, fin.of ⟨M.fld (M.gr rows) a ++ t, o ++ [a], _, rfl, s7.gup gt, (gup_ne (Ne.symm ntc)).trans ec7, (gup_ne (Ne.symm ntk)).trans ek7, (gup_ne (Ne.symm nto)).trans eo7, gup_same, hc.new ha, rfl, by omega⟩⟩
  | nil =>
    repeat infer_instance
    rw [if_neg (by decide)]
    repeat infer_instance
    refine ⟨Nat.zero_le _, new_run fun pf Hf hpf sf epf _ => ?_⟩
    repeat infer_instance
    have ecf := sf _ _ id ec0
    have ekf := sf _ _ id ek0
    have eof := sf _ _ id eo0
    have npc : pc ≠ pf := by rintro rfl; rw [ec0] at hpf; cases hpf
    have npk : pk ≠ pf := by rintro rfl; rw [ek0] at hpf; cases hpf
    have npo : po ≠ pf := by rintro rfl; rw [eo0] at hpf; cases hpf
    have gpf : G1 pf = none := sH0.bk hpf
    have oin : ∀ a ∈ o, ∀ x ∈ M.fld (M.gr rows) a, κ x ∈ o.map κ := fun a ha x hx => by
      rcases (hc.leads).2 a ha x hx with h | h
      · exact h
      · cases h
    refine i_lst eof ?_
    refine ⟨fun i σ H => ∃ (out : Sheet) (x5 x6 x8 x9 : Option D), σ = [some (sheetD rows), some (nD r), some (.ref pc), some (.ref pk), some (.ref po), x5, x6, some (.ref pf), x8, x9] ∧ Sx no G1 H ∧ H pc = some (.lst (vl rows.length κ)) ∧ H pk = some (.dic (kd nD nD (o.map κ).zipIdx)) ∧ H po = some (.lst (il o)) ∧ H pf = some (.lst (out.map rowD)) ∧ M.F2 (fun a (p : Str × List Nat) => ∃ t fs, M.gr rows a = some (t, fs) ∧ p = (t, fs.map fun x => (o.map κ).idxOf (κ x))) (o.take i) out,
      fin.of ⟨[], _, _, _, _, rfl, sH0.trans sf, ecf, ekf, eof, epf, .nil⟩, fun i σ H ⟨_, _, _, _, _, _, _, _, _, e, _⟩ => .inl e, fun i d σ H hd ⟨out, x5, x6, x8, x9, hσ, sK, ec, ek, eo, ef, fo⟩ => ?_, fun σ H ⟨out, x5, x6, x8, x9, hσ, sK, ec, ek, eo, ef, fo⟩ => ?_⟩
    · subst hσ
      obtain ⟨a, ha, rfl⟩ := il_gev hd
      have ao := List.mem_of_getElem? ha
      have sa := oS a ao
      obtain ⟨tt, fs, ea, hfs, h8⟩ := hg.row sa
      have tq := tag_q tt (hg.tag _ _ _ ea)
      have hfl : M.fld (M.gr rows) a = fs := M.fld_of ea
      repeat infer_instance
      refine sheet_ix ea ?_
      repeat infer_instance
      refine ⟨t_lst (.inl ef), ?_⟩
      repeat infer_instance
      refine row_tag ?_
      repeat infer_instance
      refine e_eqStr ?_
      repeat infer_instance
      rw [decide_eq_false tq, if_neg (by decide)]
      repeat infer_instance
      refine row_tag ?_
      repeat infer_instance
      refine row_fld ?_
      refine i_tup ?_
      refine lc_fn Fr.no trivial fs nD (fun x => nD ((o.map κ).idxOf (κ x))) rfl (fun _ _ => trivial) (szl (by omega)) (fun j x G4 hx s4 _ => ⟨_, rfl, fun h4 hh4 => ?_⟩) fun b G4 hb s4 _ e4 => ?_
      · have xl := List.mem_of_getElem? hx
        have xo : κ x ∈ o.map κ := oin a ao x (by rw [hfl]; exact xl)
        repeat infer_instance
        refine vl_ix (s4 _ _ id ec) (hfs x xl) ?_
        refine e_ixD (.inl (s4 _ _ id ek)) (kd_fits key_nat _ (κ x)) ?_ (hh4 G4 Sx.refl trivial)
        have := kd_get (V := nD) key_nat (o.map κ).zipIdx (κ x)
        rw [aget_zipIdx xo] at this
        exact this
      · repeat infer_instance
        refine e_tuple (.inl e4) ?_
        repeat infer_instance
        refine ⟨sz (by simp), ?_⟩
        repeat infer_instance
        have fol := fo.len
        rw [List.length_take] at fol
        refine e_app (s4 _ _ id ef) (szl (by rw [List.length_map]; omega)) ?_
        have em : out.map rowD ++ [D.tup [.str tt, .tup (fs.map fun x => nD ((o.map κ).idxOf (κ x)))]] = (out ++ [(tt, fs.map fun x => (o.map κ).idxOf (κ x))]).map rowD := by
          rw [List.map_append]
          simp [Function.comp_def]
        rw [em]
        refine fin.of ⟨out ++ [(tt, fs.map fun x => (o.map κ).idxOf (κ x))], _, _, _, _, rfl, (sK.trans s4).gup gpf, (gup_ne npc).trans (s4 _ _ id ec), (gup_ne npk).trans (s4 _ _ id ek), (gup_ne npo).trans (s4 _ _ id eo), gup_same, ?_⟩
        rw [take_succ_get ha]
        exact fo.app (.cons ⟨tt, fs, ea, rfl⟩ .nil)
    · subst hσ
      rw [List.length_map, List.take_length] at fo
      repeat infer_instance
      exact e_tuple (.inl ef) (fin.of (k out H (s1.trans sK) (M.least_of_walk hS hr hk hc fo)))
def SDfirstpaths : SpD := fun ds G q => ∃ L, ds = [sheetD L] ∧ Good L ∧ ∀ p fd G', G p = none → Sx no G G' → G' p = some (.ftp (fd.map fdD)) → M.Fp (M.fld (M.gr L)) fd → M.BOk (M.fld (M.gr L)) L.length fd → q (.ref p) G'
theorem rdDfirstpaths (ds : List D) (G : Gp) (q : QD) (h : SDfirstpaths ds G q) : tLfirstpaths { nx := fun _ G' => fin (q .non) G', rt := fun d G' => fin (q d) G' } (startD NLfirstpaths ds) G := by
  obtain ⟨L, rfl, gL, k⟩ := h
  have hle := gL.le
  unfold tLfirstpaths
  repeat infer_instance
  refine ⟨sz (by simp), ?_⟩
  repeat infer_instance
  refine ⟨sz (by simp), ?_⟩
  repeat infer_instance
  refine ⟨sz (by simp), new_run fun pf G1 hpf s1 e1 _ => ?_⟩
  repeat infer_instance
  refine x_disp fun pk hpk => ?_
  have s2 : Sx no G (gup G1 pk (.dic [])) := s1.gup (s1.bk hpk)
  have gpk : G pk = none := s1.bk hpk
  have nfk : pf ≠ pk := by rintro rfl; rw [e1] at hpk; cases hpk
  have e12 : gup G1 pk (.dic []) pf = _ := (gup_ne nfk).trans e1
  have e2 : gup G1 pk (.dic []) pk = some (.dic []) := gup_same
  generalize gup G1 pk (.dic []) = G2 at s2 e2 e12 ⊢
  repeat infer_instance
  refine ⟨e2, fun p hp => ⟨.inl 0, by have : p = (D.int 0, D.bl true) := by simpa using hp
                                      rw [this]; rfl⟩, by decide, ?_⟩
  have s3 : Sx no G (gup G2 pk (.dic (dputs [(D.int 0, D.bl true)]))) := s2.gup gpk
  have e13 : gup G2 pk (.dic (dputs [(D.int 0, D.bl true)])) pf = some (.lst ([((0 : Nat), ([] : List Nat))].map fdD)) := (gup_ne nfk).trans e12
  have e3 : gup G2 pk (.dic (dputs [(D.int 0, D.bl true)])) pk = some (.dic (kd nD (fun _ : Unit => D.bl true) [((0 : Nat), ())])) := gup_same
  generalize gup G2 pk (.dic (dputs [(D.int 0, D.bl true)])) = G3 at s3 e3 e13 ⊢
  repeat infer_instance
  have gpf : G pf = none := hpf
  refine ⟨fun m σ H => ∃ (n : Nat) (x4 x5 x6 x7 : Option D), σ = [some (sheetD L), some (.ref pf), some (.ref pk), some (nD n), x4, x5, x6, x7] ∧ Sx no G H ∧ H pk = some (.dic (kd nD (fun _ : Unit => D.bl true) ((M.bfs (M.fld (M.gr L)) n).map fun x => (x.1, ())))) ∧ H pf = some (.lst ((M.bfs (M.fld (M.gr L)) n).map fdD)) ∧ M.BOk (M.fld (M.gr L)) L.length (M.bfs (M.fld (M.gr L)) n) ∧ n ≤ (M.bfs (M.fld (M.gr L)) n).length ∧ m = L.length - n,
    ⟨_, fin.of ⟨0, none, none, none, none, rfl, s3, e3, e13, M.BOk.start gL.pos, Nat.zero_le _, rfl⟩⟩, fun m σ H ⟨n, x4, x5, x6, x7, hσ, sH, ek, ef, bok, hn, hm⟩ => ?_⟩
  subst hσ
  have bl := bok.len
  repeat infer_instance
  refine e_len (.inl ef) ?_
  repeat infer_instance
  rw [List.length_map]
  refine e_ltN ?_
  repeat infer_instance
  by_cases hlt : n < (M.bfs (M.fld (M.gr L)) n).length
  · rw [decide_eq_true hlt, if_pos rfl]
    repeat infer_instance
    obtain ⟨⟨r, p⟩, hrp⟩ : ∃ x, (M.bfs (M.fld (M.gr L)) n)[n]? = some x := ⟨_, List.getElem?_eq_getElem hlt⟩
    have hmem := List.mem_of_getElem? hrp
    refine e_ixL (.inl ef) (atI_nat (v := fdD (r, p)) (by rw [List.getElem?_map, hrp]; rfl)) ?_
    repeat infer_instance
    have rlt : r < L.length := bok.lt _ hmem
    obtain ⟨t, fs, er, hfs, hf8⟩ := gL.row rlt
    have hfl : M.fld (M.gr L) r = fs := M.fld_of er
    refine sheet_ix er ?_
    repeat infer_instance
    refine row_fld ?_
    repeat infer_instance
    refine e_isSeqT ?_
    have hb : M.bfs (M.fld (M.gr L)) (n + 1) = M.bgo p 0 fs (M.bfs (M.fld (M.gr L)) n) := by
      show M.bst _ _ _ = _
      unfold M.bst
      rw [hrp]
      dsimp only
      rw [hfl]
    refine ⟨fun i σ K => ∃ (fdi : List (Nat × List Nat)) (x6 x7 : Option D), σ = [some (sheetD L), some (.ref pf), some (.ref pk), some (nD n), some (nD r), some (pathD p), x6, x7] ∧ Sx no G K ∧ K pk = some (.dic (kd nD (fun _ : Unit => D.bl true) (fdi.map fun x => (x.1, ())))) ∧ K pf = some (.lst (fdi.map fdD)) ∧ M.BOk (M.fld (M.gr L)) L.length fdi ∧ (M.bfs (M.fld (M.gr L)) n).length ≤ fdi.length ∧ (r, p) ∈ fdi ∧ M.bgo p i (fs.drop i) fdi = M.bfs (M.fld (M.gr L)) (n + 1),
      fin.of ⟨M.bfs (M.fld (M.gr L)) n, _, _, rfl, sH, ek, ef, bok, Nat.le_refl _, hmem, by rw [hb]; rfl⟩, fun _ _ _ _ => trivial, fun i d σ K hd ⟨fdi, x6, x7, hσ, sK, kk, kf, bk, hl, hrm, hgo⟩ => ?_, fun σ K ⟨fdi, x6, x7, hσ, sK, kk, kf, bk, hl, hrm, hgo⟩ => ?_⟩
    · subst hσ
      obtain ⟨x, hx, rfl⟩ := enum_gev hd
      repeat infer_instance
      refine e_inD (.inl kk) (kd_fits key_nat _ x) ?_
      rw [kd_get key_nat, Option.isSome_map, aget_isSome, show ((fdi.map fun x : Nat × List Nat => (x.1, ())).map (·.1)) = fdi.map (·.1) from by rw [List.map_map]; rfl]
      repeat infer_instance
      have hdr := drop_get hx
      rw [hdr] at hgo
      unfold M.bgo at hgo
      have bl2 := bk.len
      by_cases hm2 : x ∈ fdi.map (·.1)
      · rw [decide_eq_true hm2, if_neg (by decide)]
        repeat infer_instance
        rw [if_pos hm2] at hgo
        exact fin.of ⟨fdi, _, _, rfl, sK, kk, kf, bk, hl, hrm, hgo⟩
      · rw [decide_eq_false hm2, if_pos (by decide)]
        repeat infer_instance
        rw [if_neg hm2] at hgo
        refine e_setD kk (kd_fits key_nat _ x) (by rw [kd_len, List.length_map]; exact szl (by omega)) ?_
        rw [show D.bl true = (fun _ : Unit => D.bl true) () from rfl, kd_put key_nat, aput_new (aget_none.mpr (by rw [List.map_map]; exact hm2)), show (fdi.map fun x : Nat × List Nat => (x.1, ())) ++ [(x, ())] = (fdi ++ [(x, p ++ [i])]).map fun x => (x.1, ()) from by rw [List.map_append]; rfl]
        have sK2 : Sx no G (gup K pk (.dic (kd nD (fun _ : Unit => D.bl true) ((fdi ++ [(x, p ++ [i])]).map fun x => (x.1, ()))))) := sK.gup gpk
        have kk2 : gup K pk (.dic (kd nD (fun _ : Unit => D.bl true) ((fdi ++ [(x, p ++ [i])]).map fun x => (x.1, ())))) pk = _ := gup_same
        have kf2 : gup K pk (.dic (kd nD (fun _ : Unit => D.bl true) ((fdi ++ [(x, p ++ [i])]).map fun x => (x.1, ())))) pf = _ := (gup_ne nfk).trans kf
        generalize gup K pk (.dic (kd nD (fun _ : Unit => D.bl true) ((fdi ++ [(x, p ++ [i])]).map fun x => (x.1, ())))) = K2 at sK2 kk2 kf2 ⊢
        repeat infer_instance
        refine ⟨t_lst (.inl kf2), ?_⟩
        repeat infer_instance
        have hsp : p.length < fdi.length := bk.short _ hrm
        refine ⟨sz (by simp), ?_⟩
        repeat infer_instance
        refine e_addT (sz (by simp; omega)) ?_
        repeat infer_instance
        refine ⟨sz (by simp), ?_⟩
        repeat infer_instance
        refine e_app kf2 (by rw [List.length_map]; exact szl (by omega)) ?_
        have em : fdi.map fdD ++ [D.tup [nD x, .tup (il p ++ [nD i])]] = (fdi ++ [(x, p ++ [i])]).map fdD := by
          rw [List.map_append]
          unfold fdD pathD
          simp
        refine fin.of ⟨fdi ++ [(x, p ++ [i])], _, _, rfl, sK2.gup gpf, (gup_ne (Ne.symm nfk)).trans kk2, by rw [← em]; exact gup_same, bk.put hrm (by rw [hfl]; exact hx) (hfs x (List.mem_of_getElem? hx)) hm2, by rw [List.length_append]; omega, List.mem_append_left _ hrm, hgo⟩
    · subst hσ
      rw [enumD_len, List.length_map, List.drop_length] at hgo
      have hgo : fdi = M.bfs (M.fld (M.gr L)) (n + 1) := hgo
      subst hgo
      repeat infer_instance
      refine e_addI ?_
      have bl3 := bk.len
      exact ⟨L.length - (n + 1), by omega, fin.of ⟨n + 1, _, _, _, _, rfl, sK, kk, kf, bk, by omega, rfl⟩⟩
  · rw [decide_eq_false hlt, if_neg (by decide)]
    repeat infer_instance
    have hfin : M.Fp (M.fld (M.gr L)) (M.bfs (M.fld (M.gr L)) n) := by
      show M.bfs _ _ = _
      rw [show (M.bfs (M.fld (M.gr L)) n).length = n from by omega]
    refine x_arg1 (e_lisK (.inl ef) (new_run fun p G5 hp s5 e5 _ => fin.of (k p _ G5 (sH.bk hp) (sH.trans s5) e5 hfin bok)))
def SDrowat : SpD := fun ds G q => ∃ L p r, ds = [sheetD L, pathD p] ∧ Good L ∧ M.walk (M.fld (M.gr L)) 0 p = some r ∧ ∀ G', Sx no G G' → q (nD r) G'
theorem rdDrowat (ds : List D) (G : Gp) (q : QD) (h : SDrowat ds G q) : tLrowat { nx := fun _ G' => fin (q .non) G', rt := fun d G' => fin (q d) G' } (startD NLrowat ds) G := by
  obtain ⟨L, p, r, rfl, gL, hw, k⟩ := h
  unfold tLrowat
  repeat infer_instance
  refine i_tup ?_
  refine ⟨fun i σ H => ∃ (a : Nat) (x3 : Option D), σ = [some (sheetD L), some (pathD p), some (nD a), x3] ∧ Sx no G H ∧ a < L.length ∧ M.walk (M.fld (M.gr L)) a (p.drop i) = some r, fin.of ⟨0, _, rfl, Sx.refl, gL.pos, hw⟩, fun _ _ _ _ => trivial, fun i d σ H hd ⟨a, x3, hσ, sH, ha, hw⟩ => ?_, fun σ H ⟨a, x3, hσ, sH, ha, hw⟩ => ?_⟩
  · subst hσ
    obtain ⟨z, hz, rfl⟩ := il_gev hd
    obtain ⟨t, fs, er, hfs, hf8⟩ := gL.row ha
    have hfl : M.fld (M.gr L) a = fs := M.fld_of er
    rw [drop_get hz] at hw
    have hw : ((M.fld (M.gr L) a)[z]?.bind fun t => M.walk (M.fld (M.gr L)) t (p.drop (i + 1))) = some r := hw
    rw [hfl] at hw
    cases ez : fs[z]? with
    | none => rw [ez] at hw; cases hw
    | some y =>
      rw [ez] at hw
      have hw : M.walk (M.fld (M.gr L)) y (p.drop (i + 1)) = some r := hw
      repeat infer_instance
      refine sheet_ix er ?_
      repeat infer_instance
      refine row_fld ?_
      repeat infer_instance
      refine e_ixTup (atI_nat (v := nD y) (il_get ez)) ?_
      exact fin.of ⟨y, _, rfl, sH, hfs y (List.mem_of_getElem? ez), hw⟩
  · subst hσ
    rw [List.length_map, List.drop_length] at hw
    cases hw
    repeat infer_instance
    exact fin.of (k H sH)
end
end DL.K81
/-! Q8: _law_same: what is told is just the due value. -/
namespace DL.K81
open PySem PySem.Spec PyProof.Rows L2 DL
section
theorem x_ifT {i : Decidable (true = true)} {A B : Prop} (h : A) : @ite Prop (true = true) i A B := by rw [if_pos rfl]; exact h
theorem x_ifF {i : Decidable (false = true)} {A B : Prop} (h : B) : @ite Prop (false = true) i A B := by rw [if_neg Bool.false_ne_true]; exact h
theorem x_ifNT {i : Decidable ((!true) = true)} {A B : Prop} (h : B) : @ite Prop ((!true) = true) i A B := by rw [if_neg (show ¬ (!true) = true from by simp)]; exact h
theorem x_ifNF {i : Decidable ((!false) = true)} {A B : Prop} (h : A) : @ite Prop ((!false) = true) i A B := by rw [if_pos (show (!false) = true from by simp)]; exact h
end
local macro_rules
  | `(tactic| infer_instance) => `(tactic| first
    | with_reducible refine x_seq ?_
    | with_reducible refine x_asgN ?_
    | with_reducible refine x_asg ?_
    | with_reducible refine x_drop ?_
    | with_reducible refine x_ret ?_
    | with_reducible refine x_if ?_
    | with_reducible refine x_par ?_
    | with_reducible refine x_par3 ?_
    | with_reducible refine x_next ?_
    | with_reducible refine x_break ?_
    | with_reducible refine x_cont ?_
    | ((with_reducible refine x_var ?_); refine look rfl ?_)
    | with_reducible refine x_c ?_
    | with_reducible refine x_op ?_
    | with_reducible refine x_un ?_
    | with_reducible refine x_nil ?_
    | with_reducible refine x_cons ?_
    | with_reducible refine x_star ?_
    | with_reducible refine x_cb ?_
    | with_reducible refine x_bm ?_
    | with_reducible refine x_call ?_
    | with_reducible refine x_callK ?_
    | with_reducible refine x_tup ?_
    | with_reducible refine x_lst ?_
    | with_reducible refine x_newD ?_
    | with_reducible refine x_test ?_
    | with_reducible refine x_not ?_
    | with_reducible refine x_and ?_
    | with_reducible refine x_or ?_
    | with_reducible refine x_ifE ?_
    | with_reducible refine x_notV ?_
    | with_reducible refine x_yes ?_
    | with_reducible refine x_gname ?_
    | with_reducible refine x_gnil ?_
    | with_reducible refine x_gcons ?_
    | with_reducible refine x_gtup rfl ?_
    | with_reducible refine x_gsub ?_
    | with_reducible refine x_it ?_
    | with_reducible refine x_range1 ?_
    | with_reducible refine x_enum ?_
    | with_reducible refine x_lc ?_
    | with_reducible refine x_dc ?_
    | with_reducible refine x_for ?_
    | with_reducible refine e_rev ?_
    | with_reducible refine x_arg1 ?_
    | with_reducible refine x_arg2 ?_
    | with_reducible refine x_arg3 ?_
    | with_reducible refine x_isB ?_
    | with_reducible refine x_isI ?_
    | with_reducible refine x_items ?_
    | with_reducible refine x_values ?_
    | with_reducible refine x_keys ?_
    | with_reducible refine x_listV ?_
    | with_reducible refine x_sumV ?_
    | with_reducible refine x_listItems ?_
    | with_reducible refine x_sortItems ?_
    | with_reducible refine x_zipL ?_
    | with_reducible refine x_lenSetI ?_
    | with_reducible refine x_sortSet ?_
    | with_reducible refine x_isI' ?_
    | with_reducible refine x_dpN ?_
    | with_reducible refine x_dpC ?_
    | with_reducible refine x_slice ?_
    | with_reducible refine x_noPart ?_
    | with_reducible refine x_part ?_
    | with_reducible refine x_listR2 ?_
    | with_reducible refine x_range2 ?_
    | ((with_reducible refine x_augI ?_); refine augK rfl ?_)
    | with_reducible refine x_ifT ?_
    | with_reducible refine x_ifF ?_
    | with_reducible refine x_ifNT ?_
    | with_reducible refine x_ifNF ?_)
section
mutual
def puB : D → Bool
  | .int _ => true
  | .str _ => true
  | .non => true
  | .bl _ => true
  | .tup ds => puBs ds
  | .ref _ => false
def puBs : List D → Bool
  | [] => true
  | d :: ds => puB d && puBs ds
end
mutual
def dsz : D → Nat
  | .tup ds => dszs ds + 1
  | .int _ => 1
  | .str _ => 1
  | .non => 1
  | .bl _ => 1
  | .ref _ => 1
def dszs : List D → Nat
  | [] => 0
  | d :: ds => dsz d + dszs ds
end
theorem puBs_all : ∀ {ds : List D}, puBs ds = true ↔ ∀ d ∈ ds, puB d = true
  | [] => by simp [puBs]
  | d :: ds => by
    rw [puBs, Bool.and_eq_true, puBs_all (ds := ds)]
    simp
theorem dszs_sum : ∀ ds : List D, dszs ds = (ds.map dsz).sum
  | [] => rfl
  | d :: ds => by rw [dszs, dszs_sum ds]; simp
/-- alike, of a size -/
def SmN (G : Gp) (p : D × D) (n : Nat) : Prop := (p.1 = p.2 ∧ puB p.1 = true ∧ n = dsz p.1) ∨ ∃ a b xs, p = (.ref a, .ref b) ∧ ListAt G a xs ∧ ListAt G b xs ∧ xs.length ≤ 60 ∧ puBs xs = true ∧ n = dszs xs + 1
theorem lat_sx {G G' : Gp} {a : Addr} {xs : List D} (h : ListAt G a xs) (s : Sx no G G') : ListAt G' a xs := by
  rcases h with h | h
  · exact .inl (s _ _ id h)
  · exact .inr (s _ _ id h)
theorem ty_lst {G : Gp} {a : Addr} {xs : List D} (h : ListAt G a xs) : tyN (.ref a) G = some "list" := by
  show (match G a with | some (.lst _) => some "list" | some (.rol _) => some "list" | _ => none) = _
  rcases h with h | h <;> rw [h]
theorem is_run {d : D} {G : Gp} {t T : String} {q : QD} (b : Bool) (h : tyN d G = some t) (hb : isTyB t T = b) (k : q (.bl b) G) : ∃ t, tyN d G = some t ∧ q (.bl (isTyB t T)) G := ⟨t, h, by rw [hb]; exact k⟩
theorem e_neNil2 {G : Gp} {a p : Addr} {ds : List D} {q : QD} (h : ListAt G a ds) (hp : G p = some (.lst [])) (k : q (.bl (!ds.isEmpty)) G) : rNeNil (.ref a) (.ref p) G q := ⟨ds, h, hp, k⟩
theorem e_eqBs {G : Gp} {b : Bool} {q : QD} (k : q (.bl false) G) : rEqv true (.bl b) (.bl b) G q := e_eqBl (by rw [decide_eq_true rfl]; exact k)
theorem e_eqIs {G : Gp} {b : Int} {q : QD} (k : q (.bl false) G) : rEqv true (.int b) (.int b) G q := e_eqInt (by rw [decide_eq_true rfl]; exact k)
theorem e_eqSs {G : Gp} {b : Str} {q : QD} (k : q (.bl false) G) : rEqv true (.str b) (.str b) G q := e_eqStr (by rw [decide_eq_true rfl]; exact k)
theorem zip_self (G : Gp) {xs : List D} (h : puBs xs = true) : F2 (SmN G) (xs.zip xs) (xs.map dsz) := by
  induction xs with
  | nil => exact .nil
  | cons x xs ih =>
    rw [puBs, Bool.and_eq_true] at h
    exact .cons (.inl ⟨rfl, h.1, rfl⟩) (ih h.2)
theorem F2_app {α β : Type} {R : α → β → Prop} {as cs : List α} {bs ds : List β} (f : F2 R as bs) (g : F2 R cs ds) : F2 R (as ++ cs) (bs ++ ds) := by
  induction f with
  | nil => exact g
  | cons a t ih => exact .cons a ih
theorem F2_unsnoc {α β : Type} {R : α → β → Prop} {as : List α} {a : α} {bs : List β} (f : F2 R (as ++ [a]) bs) : ∃ bs' b, bs = bs' ++ [b] ∧ F2 R as bs' ∧ R a b := by
  induction as generalizing bs with
  | nil =>
    cases f with
    | cons h t =>
      cases t
      exact ⟨[], _, rfl, .nil, h⟩
  | cons x as ih =>
    cases f with
    | cons h t =>
      obtain ⟨bs', b, e, f2, r⟩ := ih t
      exact ⟨_ :: bs', b, by rw [e]; rfl, .cons h f2, r⟩
theorem dsz_pos (d : D) : 1 ≤ dsz d := by cases d <;> simp [dsz]
theorem smn_pos {G : Gp} {p : D × D} {n : Nat} (h : SmN G p n) : 1 ≤ n := by
  rcases h with ⟨_, _, h⟩ | ⟨_, _, _, _, _, _, _, _, h⟩
  · rw [h]
    exact dsz_pos _
  · omega
theorem smn_len {G : Gp} {prs : List (D × D)} {ns : List Nat} (f : F2 (SmN G) prs ns) : prs.length ≤ ns.sum := by
  induction f with
  | nil => exact Nat.le_refl _
  | cons h _ ih =>
    rw [List.length_cons, List.sum_cons]
    have := smn_pos h
    omega
theorem e_zipT {xs ys : List D} {G : Gp} {k : List D → List D → Prop} (h : k xs ys) : zipK (.tup xs) (.tup ys) G k := h
theorem e_zipL {a b : Addr} {G : Gp} {k : List D → List D → Prop} (h : lisK (.ref a) G fun xs => lisK (.ref b) G fun ys => k xs ys) : zipK (.ref a) (.ref b) G k := h
def SDsame : SpD := fun ds G q => ∃ p n, ds = [p.1, p.2] ∧ SmN G p n ∧ n ≤ 100000 ∧ ∀ G', Sx no G G' → q (.bl true) G'
theorem rdDsame (ds : List D) (G : Gp) (q : QD) (h : SDsame ds G q) : tLsame { nx := fun _ G' => fin (q .non) G', rt := fun d G' => fin (q d) G' } (startD NLsame ds) G := by
  obtain ⟨p0, n0, rfl, hp0, hn0, k⟩ := h
  unfold tLsame
  repeat infer_instance
  refine ⟨sz (by simp), ?_⟩
  repeat infer_instance
  refine ⟨sz (by simp), new_run fun pt G1 hpt s1 e1 _ => ?_⟩
  repeat infer_instance
  have gpt : G pt = none := hpt
  refine ⟨fun m σ H => ∃ (prs : List (D × D)) (ns : List Nat) (x3 x4 : Option D), σ = [some p0.1, some p0.2, some (.ref pt), x3, x4] ∧ Sx no G H ∧ H pt = some (.lst (prs.map fun p => .tup [p.1, p.2])) ∧ F2 (SmN G) prs ns ∧ m = ns.sum ∧ m ≤ 100000, ⟨_, fin.of ⟨[p0], [n0], _, _, rfl, s1, e1, .cons hp0 .nil, rfl, by simpa using hn0⟩⟩, fun m σ H ⟨prs, ns, x3, x4, hσ, sH, ept, hf, hm, hb⟩ => ?_⟩
  subst hσ
  repeat infer_instance
  refine ⟨sz (by simp), new_run fun pz H1 hpz s2 ez _ => ?_⟩
  have ept2 := s2 _ _ id ept
  have sH1 := sH.trans s2
  refine e_neNil2 (.inl ept2) ez ?_
  rcases List.eq_nil_or_concat prs with rfl | ⟨ps, x, hps⟩
  · repeat infer_instance
    exact fin.of (k H1 sH1)
  · rw [List.concat_eq_append] at hps
    subst hps
    obtain ⟨ns', n, rfl, hf', hx⟩ := F2_unsnoc hf
    rw [List.map_append] at ept2
    have hne : (!((ps ++ [x]).map fun p : D × D => D.tup [p.1, p.2]).isEmpty) = true := by cases ps <;> rfl
    rw [hne]
    repeat infer_instance
    refine ⟨t_lst (.inl ept2), ?_⟩
    repeat infer_instance
    refine e_pop ept2 ?_
    have s3 : Sx no G (gup H1 pt (.lst (ps.map fun p => .tup [p.1, p.2]))) := sH1.gup gpt
    have e3 : gup H1 pt (.lst (ps.map fun p => .tup [p.1, p.2])) pt = _ := gup_same
    generalize gup H1 pt (.lst (ps.map fun p => .tup [p.1, p.2])) = H3 at s3 e3 ⊢
    rw [List.sum_append] at hm
    have hm : m = ns'.sum + n := by simpa using hm
    have hpl := smn_len hf'
    -- more pairs behind
    have more : ∀ {H4 : Gp} {xs : List D} {p5 : Addr} {x3 x4 : Option D}, Sx no G H4 → puBs xs = true → n = dszs xs + 1 → xs.length ≤ dszs xs → H4 pt = some (.lst (ps.map fun p => .tup [p.1, p.2])) → H4 p5 = some (.lst (zipD xs xs)) →
        rExtendD (.ref pt) [.ref p5] H4 fun _ G1 => ∃ m', m' < m ∧ fin ((fun m σ H => ∃ (prs : List (D × D)) (ns : List Nat) (x3 x4 : Option D), σ = [some p0.1, some p0.2, some (.ref pt), x3, x4] ∧ Sx no G H ∧ H pt = some (.lst (prs.map fun p => .tup [p.1, p.2])) ∧ F2 (SmN G) prs ns ∧ m = ns.sum ∧ m ≤ 100000) m' [some p0.1, some p0.2, some (.ref pt), x3, x4]) G1 := fun {H4 xs p5 x3 x4} s4 hp hn hl e4 e5 => by
      have zl : (zipD xs xs).length = xs.length := by unfold zipD; simp
      refine e_ext e4 e5 (by rw [zl, List.length_map, sizeLine_eq]; omega) ⟨ns'.sum + dszs xs, by omega, fin.of ⟨ps ++ xs.zip xs, ns' ++ xs.map dsz, _, _, rfl, s4.gup gpt, ?_, F2_app hf' (zip_self G hp), ?_, ?_⟩⟩
      · rw [gup_same, List.map_append]
        rfl
      · rw [List.sum_append, dszs_sum]
      · omega
    have dlen : ∀ xs : List D, xs.length ≤ dszs xs := fun xs => by
      induction xs with
      | nil => exact Nat.le_refl _
      | cons d xs ih =>
        rw [dszs, List.length_cons]
        have : 1 ≤ dsz d := by cases d <;> simp [dsz]
        omega
    have less : ∀ {H4 : Gp} {x3 x4 : Option D}, Sx no G H4 → 1 ≤ n → H4 pt = some (.lst (ps.map fun p => .tup [p.1, p.2])) → ∃ m', m' < m ∧ fin ((fun m σ H => ∃ (prs : List (D × D)) (ns : List Nat) (x3 x4 : Option D), σ = [some p0.1, some p0.2, some (.ref pt), x3, x4] ∧ Sx no G H ∧ H pt = some (.lst (prs.map fun p => .tup [p.1, p.2])) ∧ F2 (SmN G) prs ns ∧ m = ns.sum ∧ m ≤ 100000) m' [some p0.1, some p0.2, some (.ref pt), x3, x4]) H4 := fun {H4 x3 x4} s4 hn e4 =>
      ⟨ns'.sum, by omega, fin.of ⟨ps, ns', _, _, rfl, s4, e4, hf', rfl, by omega⟩⟩
    obtain ⟨x, y⟩ := x
    rcases hx with ⟨e, hp, hn⟩ | ⟨a, b, xs, e, ha, hb2, hl, hp, hn⟩
    · have e : x = y := e
      subst e
      have hn : n = dsz x := hn
      have hp : puB x = true := hp
      cases x with
      | tup xs =>
        rw [dsz] at hn
        rw [puB] at hp
        have tt : tyN (.tup xs) H3 = some "tuple" := rfl
        repeat infer_instance
        refine is_run true tt rfl ?_
        repeat infer_instance
        refine ⟨_, tt, ?_⟩
        rw [show isTyB "tuple" "tuple" = true from by decide]
        repeat infer_instance
        refine ⟨_, tt, ?_⟩
        rw [show isTyB "tuple" "tuple" = true from by decide]
        refine e_eqBs ?_
        repeat infer_instance
        refine ⟨_, tt, ?_⟩
        rw [show isTyB "tuple" "list" = false from by decide]
        repeat infer_instance
        refine ⟨_, tt, ?_⟩
        rw [show isTyB "tuple" "list" = false from by decide]
        refine e_eqBs ?_
        repeat infer_instance
        refine e_lenT ?_
        repeat infer_instance
        refine e_lenT ?_
        refine e_eqIs ?_
        repeat infer_instance
        refine ⟨t_lst (.inl e3), ?_⟩
        repeat infer_instance
        refine e_zipT ⟨rfl, new_run fun p5 H5 hp5 s5 e5 _ => ?_⟩
        repeat infer_instance
        exact more (s3.trans s5) hp hn (dlen xs) (s5 _ _ id e3) e5
      | int i =>
        have tt : tyN (.int i) H3 = some "int" := rfl
        repeat infer_instance
        refine is_run false tt rfl ?_
        repeat infer_instance
        refine is_run false tt rfl ?_
        repeat infer_instance
        refine is_run false tt rfl ?_
        repeat infer_instance
        refine ⟨rfl, ?_⟩
        show isB _ (.bl false) _
        repeat infer_instance
        refine is_run false tt rfl ?_
        repeat infer_instance
        refine is_run true tt rfl ?_
        repeat infer_instance
        refine ⟨_, tt, ?_⟩
        rw [show isTyB "int" "bool" = false from by decide]
        repeat infer_instance
        refine ⟨_, tt, ?_⟩
        rw [show isTyB "int" "bool" = false from by decide]
        refine e_eqBs ?_
        repeat infer_instance
        refine e_eqIs ?_
        repeat infer_instance
        exact less s3 (by rw [hn]; exact dsz_pos _) e3
      | str s =>
        have tt : tyN (.str s) H3 = some "str" := rfl
        repeat infer_instance
        refine is_run false tt rfl ?_
        repeat infer_instance
        refine is_run false tt rfl ?_
        repeat infer_instance
        refine is_run false tt rfl ?_
        repeat infer_instance
        refine ⟨rfl, ?_⟩
        show isB _ (.bl false) _
        repeat infer_instance
        refine is_run true tt rfl ?_
        repeat infer_instance
        refine is_run true tt rfl ?_
        repeat infer_instance
        refine e_eqSs ?_
        repeat infer_instance
        exact less s3 (by rw [hn]; exact dsz_pos _) e3
      | non =>
        have tt : tyN .non H3 = some "NoneType" := rfl
        repeat infer_instance
        refine is_run false tt rfl ?_
        repeat infer_instance
        refine is_run false tt rfl ?_
        repeat infer_instance
        refine is_run false tt rfl ?_
        repeat infer_instance
        refine ⟨rfl, ?_⟩
        show isB _ (.bl true) _
        repeat infer_instance
        refine ⟨rfl, ?_⟩
        show isB _ (.bl false) _
        repeat infer_instance
        exact less s3 (by rw [hn]; exact dsz_pos _) e3
      | bl b =>
        have tt : tyN (.bl b) H3 = some "bool" := rfl
        repeat infer_instance
        refine is_run false tt rfl ?_
        repeat infer_instance
        refine is_run false tt rfl ?_
        repeat infer_instance
        refine is_run false tt rfl ?_
        repeat infer_instance
        refine ⟨rfl, ?_⟩
        show isB _ (.bl false) _
        repeat infer_instance
        refine is_run false tt rfl ?_
        repeat infer_instance
        refine is_run true tt rfl ?_
        repeat infer_instance
        refine ⟨_, tt, ?_⟩
        rw [show isTyB "bool" "bool" = true from by decide]
        repeat infer_instance
        refine ⟨_, tt, ?_⟩
        rw [show isTyB "bool" "bool" = true from by decide]
        refine e_eqBs ?_
        repeat infer_instance
        refine e_eqBs ?_
        repeat infer_instance
        exact less s3 (by rw [hn]; exact dsz_pos _) e3
      | ref a => cases hp
    · cases e
      have ta := ty_lst (lat_sx ha s3)
      have tb := ty_lst (lat_sx hb2 s3)
      repeat infer_instance
      refine is_run false tb rfl ?_
      repeat infer_instance
      refine is_run true tb rfl ?_
      repeat infer_instance
      refine ⟨_, ta, ?_⟩
      rw [show isTyB "list" "tuple" = false from by decide]
      repeat infer_instance
      refine ⟨_, tb, ?_⟩
      rw [show isTyB "list" "tuple" = false from by decide]
      refine e_eqBs ?_
      repeat infer_instance
      refine ⟨_, ta, ?_⟩
      rw [show isTyB "list" "list" = true from by decide]
      repeat infer_instance
      refine ⟨_, tb, ?_⟩
      rw [show isTyB "list" "list" = true from by decide]
      refine e_eqBs ?_
      repeat infer_instance
      refine e_len (lat_sx ha s3) ?_
      repeat infer_instance
      refine e_len (lat_sx hb2 s3) ?_
      refine e_eqIs ?_
      repeat infer_instance
      refine ⟨t_lst (.inl e3), ?_⟩
      repeat infer_instance
      refine e_zipL (e_lisK (lat_sx ha s3) (e_lisK (lat_sx hb2 s3) ⟨rfl, new_run fun p5 H5 hp5 s5 e5 _ => ?_⟩))
      repeat infer_instance
      exact more (s3.trans s5) hp hn (dlen xs) (s5 _ _ id e3) e5
end
end DL.K81
/-! Q9: _law_levels: how many nodes of each row lie at each depth. -/
namespace DL.K81
open PySem PySem.Spec PyProof.Rows L2 DL
local macro_rules
  | `(tactic| infer_instance) => `(tactic| first
    | with_reducible refine x_seq ?_
    | with_reducible refine x_asgN ?_
    | with_reducible refine x_asg ?_
    | with_reducible refine x_drop ?_
    | with_reducible refine x_ret ?_
    | with_reducible refine x_if ?_
    | with_reducible refine x_par ?_
    | with_reducible refine x_par3 ?_
    | with_reducible refine x_next ?_
    | with_reducible refine x_break ?_
    | with_reducible refine x_cont ?_
    | ((with_reducible refine x_var ?_); refine look rfl ?_)
    | with_reducible refine x_c ?_
    | with_reducible refine x_op ?_
    | with_reducible refine x_un ?_
    | with_reducible refine x_nil ?_
    | with_reducible refine x_cons ?_
    | with_reducible refine x_star ?_
    | with_reducible refine x_cb ?_
    | with_reducible refine x_bm ?_
    | with_reducible refine x_call ?_
    | with_reducible refine x_callK ?_
    | with_reducible refine x_tup ?_
    | with_reducible refine x_lst ?_
    | with_reducible refine x_newD ?_
    | with_reducible refine x_test ?_
    | with_reducible refine x_not ?_
    | with_reducible refine x_and ?_
    | with_reducible refine x_or ?_
    | with_reducible refine x_ifE ?_
    | with_reducible refine x_notV ?_
    | with_reducible refine x_yes ?_
    | with_reducible refine x_gname ?_
    | with_reducible refine x_gnil ?_
    | with_reducible refine x_gcons ?_
    | with_reducible refine x_gtup rfl ?_
    | with_reducible refine x_gsub ?_
    | with_reducible refine x_it ?_
    | with_reducible refine x_range1 ?_
    | with_reducible refine x_enum ?_
    | with_reducible refine x_lc ?_
    | with_reducible refine x_dc ?_
    | with_reducible refine x_for ?_
    | with_reducible refine e_rev ?_
    | with_reducible refine x_arg1 ?_
    | with_reducible refine x_arg2 ?_
    | with_reducible refine x_arg3 ?_
    | with_reducible refine x_isB ?_
    | with_reducible refine x_isI ?_
    | with_reducible refine x_items ?_
    | with_reducible refine x_values ?_
    | with_reducible refine x_keys ?_
    | with_reducible refine x_listV ?_
    | with_reducible refine x_sumV ?_
    | with_reducible refine x_listItems ?_
    | with_reducible refine x_sortItems ?_
    | with_reducible refine x_zipL ?_
    | with_reducible refine x_lenSetI ?_
    | with_reducible refine x_sortSet ?_
    | with_reducible refine x_isI' ?_
    | with_reducible refine x_dpN ?_
    | with_reducible refine x_dpC ?_
    | with_reducible refine x_slice ?_
    | with_reducible refine x_noPart ?_
    | with_reducible refine x_part ?_
    | with_reducible refine x_listR2 ?_
    | with_reducible refine x_range2 ?_
    | ((with_reducible refine x_augI ?_); refine augK rfl ?_))
section
theorem atI_last {α : Type} {xs : List α} {z : α} {i : Nat} (hl : xs.length = i + 1) (h : xs[i]? = some z) : atI xs (-1) = some z := by
  have e : ixN xs.length (-1) = some i := by
    unfold ixN
    rw [if_neg (by decide), if_pos (by omega)]
    congr 1
    omega
  show ((ixN xs.length (-1)).bind fun j => xs[j]?) = _
  rw [e]
  exact h
theorem e_dictP {G : Gp} {a : Addr} {kvs : List (D × D)} {q : QD} (h : G a = some (.lst (kvs.map fun p => .tup [p.1, p.2]))) (hk : KeysK kvs ∨ (kvs ≠ [] ∧ keysUp (kvs.map (·.1)))) (k : newO (.dic (dputs kvs)) q G) : rDictP [.ref a] G q := by
  refine x_arg1 ?_
  show (match G a with
    | some (.lst ds) => _
    | some (.rol ds) => _
    | some (.ftp ds) => _
    | _ => False)
  rw [h]
  exact ⟨kvs, rfl, hk, k⟩
theorem e_neg {G : Gp} {i : Int} {q : QD} (k : q (.int (-i)) G) : rNeg (.int i) G q := k
def SDlevels : SpD := fun ds G q => ∃ L depth, ds = [sheetD L, nD depth] ∧ Good L ∧ depth ≤ 1000 ∧ ∀ p (as : List Addr) G', G p = none → Sx no G G' → G' p = some (.lst (as.map D.ref)) → as.length = depth + 1 → (∀ (j : Nat) a, as[j]? = some a → G' a = some (cD (lv (M.fld (M.gr L)) j)) ∧ G a = none ∧ a ≠ p) → q (.ref p) G'
theorem rdDlevels (ds : List D) (G : Gp) (q : QD) (h : SDlevels ds G q) : tLlevels { nx := fun _ G' => fin (q .non) G', rt := fun d G' => fin (q d) G' } (startD NLlevels ds) G := by
  obtain ⟨L, depth, rfl, gL, hd, k⟩ := h
  have hle := gL.le
  unfold tLlevels
  repeat infer_instance
  refine ⟨sz (by simp), ?_⟩
  repeat infer_instance
  refine ⟨sz (by simp), new_run fun p1 G1 hp1 s1 e1 _ => ?_⟩
  repeat infer_instance
  refine e_dictP (kvs := [(D.int 0, D.int 1)]) e1 (.inl fun p hp => ⟨.inl 0, by have : p = (D.int 0, D.int 1) := by simpa using hp
                                                                                rw [this]; rfl⟩) (new_run fun pd G2 hpd s2 e2 _ => ?_)
  repeat infer_instance
  refine ⟨sz (by simp), new_run fun pf G3 hpf s3 e3 _ => ?_⟩
  repeat infer_instance
  have e2' : G2 pd = some (cD [(0, 1)]) := e2
  have gpd : G pd = none := s1.bk hpd
  have gpf : G pf = none := (s1.trans s2).bk hpf
  have ndf : pd ≠ pf := by rintro rfl; rw [e2] at hpf; cases hpf
  have gf : ∀ a, a < L.length → ∀ x ∈ M.fld (M.gr L) a, x < L.length := fun a ha => gL.cl.fld ha
  have kok : ∀ n, KOk (· < L.length) (lv (M.fld (M.gr L)) n) := fun n => KOk.lv gf gL.pos n
  refine ⟨⟨by show -(2 ^ 62) ≤ (depth : Int); omega, by show (depth : Int) < 2 ^ 62; omega⟩, ?_⟩
  rw [show (depth : Int).toNat = depth from by omega]
  refine ⟨fun i σ H => ∃ (as : List Addr) (x3 x4 x5 x6 : Option D), σ = [some (sheetD L), some (nD depth), some (.ref pf), x3, x4, x5, x6] ∧ Sx no G H ∧ H pf = some (.lst (as.map D.ref)) ∧ as.length = i + 1 ∧ i ≤ depth ∧ ∀ (j : Nat) a, as[j]? = some a → H a = some (cD (lv (M.fld (M.gr L)) j)) ∧ G a = none ∧ a ≠ pf,
    fin.of ⟨[pd], _, _, _, _, rfl, (s1.trans s2).trans s3, e3, rfl, Nat.zero_le _, fun j a ha => ?_⟩, fun _ _ _ _ => trivial, fun i d σ H hd ⟨as, x3, x4, x5, x6, hσ, sH, ef, hl, hi, hall⟩ => ?_, fun σ H ⟨as, x3, x4, x5, x6, hσ, sH, ef, hl, hi, hall⟩ => ?_⟩
  · cases j with
    | zero =>
      have : pd = a := by simpa using ha
      subst this
      exact ⟨s3 _ _ id e2', gpd, ndf⟩
    | succ j => simp at ha
  · subst hσ
    obtain ⟨hi2, rfl⟩ := rng_get hd
    obtain ⟨z, hz⟩ : ∃ z, as[i]? = some z := ⟨_, List.getElem?_eq_getElem (by omega)⟩
    obtain ⟨ez, gz, nzf⟩ := hall i z hz
    have hzD : atI (as.map D.ref) (-1) = some (.ref z) := atI_last (by rw [List.length_map]; exact hl) (by rw [List.getElem?_map, hz]; rfl)
    repeat infer_instance
    refine new_run fun pu H3 hpu s5 epu _ => ?_
    repeat infer_instance
    have ez3 := s5 _ _ id ez
    have ef3 := s5 _ _ id ef
    have sH3 := sH.trans s5
    have gpu : G pu = none := sH.bk hpu
    have nuz : pu ≠ z := by rintro rfl; rw [ez] at hpu; cases hpu
    have nuf : pu ≠ pf := by rintro rfl; rw [ef] at hpu; cases hpu
    refine x_lock ez3 ?_
    have ecB : gup H3 z (cR (lv (M.fld (M.gr L)) i)) z = _ := gup_same
    have efB : gup H3 z (cR (lv (M.fld (M.gr L)) i)) pf = _ := (gup_ne (Ne.symm nzf)).trans ef3
    have euB : gup H3 z (cR (lv (M.fld (M.gr L)) i)) pu = some (cD []) := (gup_ne nuz).trans epu
    have unl : ∀ K, Sx (· = pu) (gup H3 z (cR (lv (M.fld (M.gr L)) i))) K → Sx (· = pu) H3 (gup K z (cD (lv (M.fld (M.gr L)) i))) := fun K s => lock_sx ez3 s
    generalize gup H3 z (cR (lv (M.fld (M.gr L)) i)) = B at ecB efB euB unl ⊢
    repeat infer_instance
    refine e_neg ?_
    refine e_ixL (.inl efB) hzD ?_
    refine e_rdcK ecB (kd_nat _) ?_
    have nzu : ¬ z = pu := Ne.symm nuz
    have nfu : ¬ pf = pu := Ne.symm nuf
    refine ⟨fun j σ K => ∃ (acc : List (Nat × Int)) (x5 x6 : Option D), σ = [some (sheetD L), some (nD depth), some (.ref pf), some (nD i), some (.ref pu), x5, x6] ∧ Sx (· = pu) B K ∧ K pu = some (cD acc) ∧ KOk (· < L.length) acc ∧ ((lv (M.fld (M.gr L)) i).drop j).foldl (fun acc x => addAll acc (M.fld (M.gr L) x.1) x.2) acc = lv (M.fld (M.gr L)) (i + 1),
      fin.of ⟨[], _, _, rfl, Sx.refl, euB, .nil, rfl⟩, fun _ _ _ _ => trivial, fun j d σ K hd2 ⟨acc, x5, x6, hσ, sK, eu, ok, hrun⟩ => ?_, fun σ K ⟨acc, x5, x6, hσ, sK, eu, ok, hrun⟩ => ?_⟩
    · subst hσ
      rw [kd_keys, List.getElem?_map, List.getElem?_map, Option.map_map] at hd2
      obtain ⟨x, hx, rfl⟩ := Option.map_eq_some_iff.mp hd2
      have hxl := (kok i).mem x (List.mem_of_getElem? hx)
      obtain ⟨t, fs, er, hfs, hf8⟩ := gL.row hxl
      have hfl : M.fld (M.gr L) x.1 = fs := M.fld_of er
      rw [drop_get hx, List.foldl_cons] at hrun
      repeat infer_instance
      refine sheet_ix er ?_
      repeat infer_instance
      refine row_fld ?_
      refine i_tup ?_
      refine ⟨fun z2 σ K => ∃ (acc2 : List (Nat × Int)) (x6 : Option D), σ = [some (sheetD L), some (nD depth), some (.ref pf), some (nD i), some (.ref pu), some (nD x.1), x6] ∧ Sx (· = pu) B K ∧ K pu = some (cD acc2) ∧ KOk (· < L.length) acc2 ∧ (fs.drop z2).foldl (fun m k => addK m k x.2) acc2 = addAll acc fs x.2,
        fin.of ⟨acc, _, rfl, sK, eu, ok, rfl⟩, fun _ _ _ _ => trivial, fun z2 d σ K hd3 ⟨acc2, x6, hσ, sK, eu, ok, hrun2⟩ => ?_, fun σ K ⟨acc2, x6, hσ, sK, eu, ok, hrun2⟩ => ?_⟩
      · subst hσ
        obtain ⟨y, hy, rfl⟩ := il_gev hd3
        rw [drop_get hy, List.foldl_cons] at hrun2
        have ol := ok.len
        repeat infer_instance
        refine ⟨t_dic (.inl eu), ?_⟩
        repeat infer_instance
        refine get_cD eu ?_
        repeat infer_instance
        refine e_neg ?_
        refine e_ixL (.inl (sK _ _ nfu efB)) hzD ?_
        repeat infer_instance
        refine e_ixD (.inr (sK _ _ nzu ecB)) (kd_fits key_nat _ x.1) (v := D.int x.2) ?_ ?_
        · rw [kd_get key_nat, aget_of (kok i).nd (List.mem_of_getElem? hx)]
          rfl
        refine e_addI ?_
        repeat infer_instance
        refine e_setD eu (kd_fits key_nat _ y) (by rw [kd_len]; exact szl (by omega)) ?_
        rw [kd_put key_nat]
        exact fin.of ⟨addK acc2 y x.2, _, rfl, sK.gupE rfl, gup_same, ok.add (hfs y (List.mem_of_getElem? hy)) x.2, hrun2⟩
      · subst hσ
        rw [List.length_map, List.drop_length] at hrun2
        have hrun2 : acc2 = addAll acc fs x.2 := hrun2
        subst hrun2
        refine fin.of ⟨addAll acc fs x.2, _, _, rfl, sK, eu, ok, ?_⟩
        rw [hfl] at hrun
        exact hrun
    · subst hσ
      rw [List.length_map, kd_len, List.drop_length] at hrun
      have hrun : acc = lv (M.fld (M.gr L)) (i + 1) := hrun
      subst hrun
      refine ⟨sK _ _ nzu ecB, ?_⟩
      have sK2 := unl K sK
      have eu2 : gup K z (cD (lv (M.fld (M.gr L)) i)) pu = _ := (gup_ne nuz).trans eu
      generalize gup K z (cD (lv (M.fld (M.gr L)) i)) = K2 at sK2 eu2 ⊢
      repeat infer_instance
      refine ⟨t_lst (.inl (sK2 _ _ nfu ef3)), ?_⟩
      repeat infer_instance
      refine e_app (sK2 _ _ nfu ef3) (by rw [List.length_map, sizeLine_eq]; omega) ?_
      have sG2 : Sx no G K2 := sH3.cut sK2 fun b hb => by rw [hb]; exact gpu
      refine fin.of ⟨as ++ [pu], _, _, _, _, rfl, sG2.gup gpf, by rw [gup_same, List.map_append]; rfl, by rw [List.length_append, hl]; rfl, by omega, fun j a ha => ?_⟩
      by_cases hj : j < as.length
      · rw [List.getElem?_append_left hj] at ha
        obtain ⟨h1, h2, h3⟩ := hall j a ha
        have nau : ¬ a = pu := by rintro rfl; rw [h1] at hpu; cases hpu
        exact ⟨(gup_ne h3).trans (sK2 _ _ nau (s5 _ _ id h1)), h2, h3⟩
      · have hj2 := (List.getElem?_eq_some_iff.mp ha).1
        rw [List.length_append, List.length_singleton] at hj2
        have ej : j = as.length := by omega
        subst ej
        rw [List.getElem?_append_right (Nat.le_refl _), Nat.sub_self] at ha
        have : pu = a := by simpa using ha
        subst this
        refine ⟨(gup_ne nuf).trans ?_, gpu, nuf⟩
        rw [hl]
        exact eu2
  · subst hσ
    rw [List.length_map, List.length_range] at hl
    repeat infer_instance
    exact fin.of (k pf as H gpf sH ef hl hall)
end
end DL.K81
/-! Q10: _law_are_counts_right. -/
namespace DL.K81
open PySem PySem.Spec PyProof.Rows L2 DL
open PySem.W (dataLe)
local macro_rules
  | `(tactic| infer_instance) => `(tactic| first
    | with_reducible refine x_seq ?_
    | with_reducible refine x_asgN ?_
    | with_reducible refine x_asg ?_
    | with_reducible refine x_drop ?_
    | with_reducible refine x_ret ?_
    | with_reducible refine x_if ?_
    | with_reducible refine x_par ?_
    | with_reducible refine x_par3 ?_
    | with_reducible refine x_next ?_
    | with_reducible refine x_break ?_
    | with_reducible refine x_cont ?_
    | ((with_reducible refine x_var ?_); refine look rfl ?_)
    | with_reducible refine x_c ?_
    | with_reducible refine x_op ?_
    | with_reducible refine x_un ?_
    | with_reducible refine x_nil ?_
    | with_reducible refine x_cons ?_
    | with_reducible refine x_star ?_
    | with_reducible refine x_cb ?_
    | with_reducible refine x_bm ?_
    | with_reducible refine x_call ?_
    | with_reducible refine x_callK ?_
    | with_reducible refine x_tup ?_
    | with_reducible refine x_lst ?_
    | with_reducible refine x_newD ?_
    | with_reducible refine x_test ?_
    | with_reducible refine x_not ?_
    | with_reducible refine x_and ?_
    | with_reducible refine x_or ?_
    | with_reducible refine x_ifE ?_
    | with_reducible refine x_notV ?_
    | with_reducible refine x_yes ?_
    | with_reducible refine x_gname ?_
    | with_reducible refine x_gnil ?_
    | with_reducible refine x_gcons ?_
    | with_reducible refine x_gtup rfl ?_
    | with_reducible refine x_gsub ?_
    | with_reducible refine x_it ?_
    | with_reducible refine x_range1 ?_
    | with_reducible refine x_enum ?_
    | with_reducible refine x_lc ?_
    | with_reducible refine x_dc ?_
    | with_reducible refine x_for ?_
    | with_reducible refine e_rev ?_
    | with_reducible refine x_arg1 ?_
    | with_reducible refine x_arg2 ?_
    | with_reducible refine x_arg3 ?_
    | with_reducible refine x_isB ?_
    | with_reducible refine x_isI ?_
    | with_reducible refine x_items ?_
    | with_reducible refine x_values ?_
    | with_reducible refine x_keys ?_
    | with_reducible refine x_listV ?_
    | with_reducible refine x_sumV ?_
    | with_reducible refine x_listItems ?_
    | with_reducible refine x_sortItems ?_
    | with_reducible refine x_zipL ?_
    | with_reducible refine x_lenSetI ?_
    | with_reducible refine x_sortSet ?_
    | with_reducible refine x_isI' ?_
    | with_reducible refine x_dpN ?_
    | with_reducible refine x_dpC ?_
    | with_reducible refine x_slice ?_
    | with_reducible refine x_noPart ?_
    | with_reducible refine x_part ?_
    | with_reducible refine x_listR2 ?_
    | with_reducible refine x_range2 ?_
    | ((with_reducible refine x_augI ?_); refine augK rfl ?_)
    | with_reducible refine x_ifT ?_
    | with_reducible refine x_ifF ?_
    | with_reducible refine x_ifNT ?_
    | with_reducible refine x_ifNF ?_)
section
theorem e_sumL {G : Gp} {a : Addr} {ns : List Int} {q : QD} (h : ListAt G a (ns.map D.int)) (k : q (.int ns.sum) G) : rSumA [.ref a] G q := by
  refine x_arg1 ?_
  show lisK (.ref a) G fun es => ∃ ns : List Int, es = ns.map D.int ∧ q (.int ns.sum) G
  exact e_lisK h ⟨ns, rfl, k⟩
theorem e_sumT {G : Gp} {ns : List Int} {q : QD} (k : q (.int ns.sum) G) : rSumA [.tup (ns.map D.int)] G q := ⟨ns, rfl, k⟩
theorem refs_idx (as : List Addr) : as.map D.ref = as.zipIdx.map fun x => D.ref x.1 := by
  refine List.ext_getElem? fun i => ?_
  rw [List.getElem?_map, List.getElem?_map, List.getElem?_zipIdx]
  cases as[i]? <;> rfl
theorem lev_pu (f : Nat → List Nat) (n : Nat) : puB (levD f n) = true := by
  unfold levD
  rw [puB]
  refine puBs_all.mpr fun d hd => ?_
  obtain ⟨i, _, rfl⟩ := List.mem_map.mp hd
  rfl
theorem lev_sz (f : Nat → List Nat) (n : Nat) : dsz (levD f n) = n + 1 := by
  unfold levD
  rw [dsz, dszs_sum, List.map_map]
  have : ∀ l : List Nat, (l.map (dsz ∘ fun i => D.int (tot (lv f i)))).sum = l.length := fun l => by
    induction l with
    | nil => rfl
    | cons x l ih =>
      rw [List.map_cons, List.sum_cons, ih, List.length_cons]
      show 1 + l.length = _
      omega
  rw [this, List.length_range]
theorem tag_mem {m : List (Str × Int)} {d : D} (h : d ∈ (pairsD (kd D.str D.int m)).mergeSort (dataLe false enc)) : ∃ s i, d = .tup [.str s, .int i] := by
  have h := (List.mergeSort_perm _ _).mem_iff.mp h
  unfold pairsD kd at h
  rw [List.map_map] at h
  obtain ⟨x, _, rfl⟩ := List.mem_map.mp h
  exact ⟨x.1, x.2, rfl⟩
theorem tag_pu (m : List (Str × Int)) : puB (tagD m) = true := by
  unfold tagD
  rw [puB]
  refine puBs_all.mpr fun d hd => ?_
  obtain ⟨s, i, rfl⟩ := tag_mem hd
  rfl
theorem tag_sz (m : List (Str × Int)) : dsz (tagD m) ≤ 3 * m.length + 1 := by
  unfold tagD
  rw [dsz, dszs_sum]
  have : ∀ l : List D, (∀ d ∈ l, ∃ s i, d = .tup [.str s, .int i]) → (l.map dsz).sum = 3 * l.length := fun l => by
    induction l with
    | nil => exact fun _ => rfl
    | cons x l ih =>
      intro h
      obtain ⟨s, i, rfl⟩ := h x List.mem_cons_self
      rw [List.map_cons, List.sum_cons, ih (fun d hd => h d (List.mem_cons_of_mem _ hd)), List.length_cons]
      show 3 + 3 * l.length = _
      omega
  rw [this _ fun d hd => tag_mem hd, List.length_mergeSort]
  unfold pairsD
  rw [List.length_map, kd_len]
  omega
/-- two alike in a list each -/
theorem sm_two {G : Gp} {a b : Addr} {d : D} (ha : G a = some (.lst [d, d])) (hb : G b = some (.lst [d, d])) (hp : puB d = true) : SmN G (.ref a, .ref b) (dsz d + dsz d + 1) :=
  .inr ⟨a, b, [d, d], rfl, .inl ha, .inl hb, by simp, by rw [puBs, puBs, puBs, hp]; rfl, by simp [dszs]⟩
def SDcounts : SpD := fun ds G q => ∃ a c L rows, ds = [.ref a, sheetD L, sheetD rows] ∧ DkJ a c G ∧ Good L ∧ Good rows ∧ M.IsLeast (M.gr rows) 0 L ∧ ∀ G', Sx (Dk a c) G G' → DkJ a c G' → q (.bl true) G'
theorem rdDcounts (ds : List D) (G : Gp) (q : QD) (h : SDcounts ds G q) : tLarecountsright SDpick SDdraw SDlevels SDsame Slevelcounts Stagcounts { nx := fun _ G' => fin (q .non) G', rt := fun d G' => fin (q d) G' } (startD NLarecountsright ds) G := by
  obtain ⟨a, c, L, rows, rfl, hj, gL, gR, hL, k⟩ := h
  unfold tLarecountsright
  repeat infer_instance
  refine ⟨a, c, 61, rfl, hj, by decide, by decide, fun r0 G1 s1 j1 hr0 => ?_⟩
  repeat infer_instance
  refine ⟨sz (by simp), new_run fun p1 G2 hp1 s2 e2 _ => ?_⟩
  repeat infer_instance
  have j2 := j1.mono s2
  have n1 : ¬ Dk a c p1 := j1.ne hp1
  refine ⟨a, c, p1, _, rfl, j2, n1, e2, by simp, by simp, fun v G3 hv s3 j3 => ?_⟩
  obtain ⟨depth, hdp, rfl⟩ : ∃ n : Nat, n ≤ 60 ∧ v = nD n := by
    simp only [List.mem_cons, List.not_mem_nil, or_false] at hv
    rcases hv with rfl | rfl | rfl | rfl | rfl | rfl | rfl | rfl | rfl
    · exact ⟨0, by decide, rfl⟩
    · exact ⟨1, by decide, rfl⟩
    · exact ⟨2, by decide, rfl⟩
    · exact ⟨3, by decide, rfl⟩
    · exact ⟨5, by decide, rfl⟩
    · exact ⟨8, by decide, rfl⟩
    · exact ⟨13, by decide, rfl⟩
    · exact ⟨60, by decide, rfl⟩
    · exact ⟨r0, by omega, rfl⟩
  have s03 : Sx (Dk a c) G G3 := (s1.trans s2.of).trans s3
  repeat infer_instance
  refine ⟨L, depth, rfl, gL, by omega, fun pl as G4 hpl s4 e4 has hall => ?_⟩
  repeat infer_instance
  refine new_run fun pt G5 hpt s5 e5 _ => ?_
  repeat infer_instance
  have e4' := s5 _ _ id e4
  have ntl : pt ≠ pl := by rintro rfl; rw [e4] at hpt; cases hpt
  have hall5 : ∀ (j : Nat) b, as[j]? = some b → G5 b = some (cD (lv (M.fld (M.gr L)) j)) ∧ b ≠ pt := fun j b hb => by
    obtain ⟨h1, h2, h3⟩ := hall j b hb
    refine ⟨s5 _ _ id h1, ?_⟩
    rintro rfl
    rw [h1] at hpt
    cases hpt
  have gf : ∀ a, a < L.length → ∀ x ∈ M.fld (M.gr L) a, x < L.length := fun a ha => gL.cl.fld ha
  have gt : ∀ a, a < L.length → tgs (M.gr L) a ∈ allTags := fun a ha => tgs_ok gL ha
  have kok : ∀ n, KOk (· < L.length) (lv (M.fld (M.gr L)) n) := fun n => KOk.lv gf gL.pos n
  have tok : ∀ n, KOk (· ∈ allTags) (tagAll (tgs (M.gr L)) (M.fld (M.gr L)) n) := fun n => KOk.tagAll gf gL.pos gt n
  have tl : ∀ {m : List (Str × Int)}, KOk (· ∈ allTags) m → m.length ≤ 13 := fun h => h.lenL
  refine i_lst e4' ?_
  refine lc_fn Fr.no trivial as.zipIdx (fun x => .ref x.1) (fun x => .int (tot (lv (M.fld (M.gr L)) x.2))) (refs_idx as) (fun G' s => .inl (s _ _ id e4')) (by rw [List.length_zipIdx, has, sizeLine_eq]; omega) (fun i x G' hx s _ => ⟨_, rfl, fun h hh => ?_⟩) fun p6 G6 hp6 s6 _ e6 => ?_
  · rw [List.getElem?_zipIdx, Nat.zero_add] at hx
    obtain ⟨b, hb, rfl⟩ := Option.map_eq_some_iff.mp hx
    obtain ⟨h1, _⟩ := hall5 i b hb
    have h1 := s _ _ id h1
    repeat infer_instance
    refine e_dicK h1 (kd_nat _) (new_run fun p7 G7 hp7 s7 e7 _ => ?_)
    repeat infer_instance
    rw [vals_ints] at e7
    exact e_sumL (.inl e7) (hh G7 s7 trivial)
  have ecnt : (as.zipIdx.map fun x => D.int (tot (lv (M.fld (M.gr L)) x.2))) = (List.range (depth + 1)).map fun i => D.int (tot (lv (M.fld (M.gr L)) i)) := by
    refine List.ext_getElem? fun i => ?_
    rw [List.getElem?_map, List.getElem?_map, List.getElem?_zipIdx, Nat.zero_add]
    by_cases hi : i < depth + 1
    · rw [List.getElem?_range hi, List.getElem?_eq_getElem (by omega)]
      rfl
    · rw [List.getElem?_eq_none (by omega), List.getElem?_eq_none (by rw [List.length_range]; omega)]
      rfl
  rw [ecnt] at e6
  repeat infer_instance
  refine e_tuple (.inl e6) ?_
  repeat infer_instance
  have e46 := s6 _ _ id e4'
  have e56 := s6 _ _ id e5
  have hall6 : ∀ (j : Nat) b, as[j]? = some b → G6 b = some (cD (lv (M.fld (M.gr L)) j)) ∧ b ≠ pt := fun j b hb => let ⟨h1, h2⟩ := hall5 j b hb; ⟨s6 _ _ id h1, h2⟩
  have nlt : ¬ pl = pt := Ne.symm ntl
  refine i_lst e46 ?_
  refine ⟨fun i σ H => ∃ (x7 x8 : Option D), σ = [some (.ref a), some (sheetD L), some (sheetD rows), some (nD depth), some (.ref pl), some (.ref pt), some (levD (M.fld (M.gr L)) (depth + 1)), x7, x8, none, none] ∧ Sx (· = pt) G6 H ∧ H pt = some (sD (tagAll (tgs (M.gr L)) (M.fld (M.gr L)) i)),
    fin.of ⟨_, _, rfl, Sx.refl, e56⟩, fun i σ H ⟨_, _, _, s, _⟩ => .inl (s _ _ nlt e46), fun i d σ H hd ⟨x7, x8, hσ, sH, et⟩ => ?_, fun σ H ⟨x7, x8, hσ, sH, et⟩ => ?_⟩
  · subst hσ
    rw [List.getElem?_map] at hd
    obtain ⟨z, hz, rfl⟩ := Option.map_eq_some_iff.mp hd
    obtain ⟨ez6, nzt⟩ := hall6 i z hz
    have ez := sH _ _ nzt ez6
    repeat infer_instance
    refine x_lock ez ?_
    have ecB : gup H z (cR (lv (M.fld (M.gr L)) i)) z = _ := gup_same
    have etB : gup H z (cR (lv (M.fld (M.gr L)) i)) pt = some (sD (tagAll (tgs (M.gr L)) (M.fld (M.gr L)) i)) := (gup_ne (Ne.symm nzt)).trans et
    have unl : ∀ K, Sx (· = pt) (gup H z (cR (lv (M.fld (M.gr L)) i))) K → Sx (· = pt) H (gup K z (cD (lv (M.fld (M.gr L)) i))) := fun K s => lock_sx ez s
    generalize gup H z (cR (lv (M.fld (M.gr L)) i)) = B at ecB etB unl ⊢
    repeat infer_instance
    refine e_rdcK ecB (kd_nat _) ?_
    refine ⟨fun j σ K => ∃ (acc : List (Str × Int)) (x8 : Option D), σ = [some (.ref a), some (sheetD L), some (sheetD rows), some (nD depth), some (.ref pl), some (.ref pt), some (levD (M.fld (M.gr L)) (depth + 1)), some (.ref z), x8, none, none] ∧ Sx (· = pt) B K ∧ K pt = some (sD acc) ∧ KOk (· ∈ allTags) acc ∧ tagLv (tgs (M.gr L)) acc ((lv (M.fld (M.gr L)) i).drop j) = tagAll (tgs (M.gr L)) (M.fld (M.gr L)) (i + 1),
      fin.of ⟨_, _, rfl, Sx.refl, etB, tok i, rfl⟩, fun _ _ _ _ => trivial, fun j d σ K hd2 ⟨acc, x8, hσ, sK, et, ok, hrun⟩ => ?_, fun σ K ⟨acc, x8, hσ, sK, et, ok, hrun⟩ => ?_⟩
    · subst hσ
      rw [kd_keys, List.getElem?_map, List.getElem?_map, Option.map_map] at hd2
      obtain ⟨x, hx, rfl⟩ := Option.map_eq_some_iff.mp hd2
      have hxl := (kok i).mem x (List.mem_of_getElem? hx)
      obtain ⟨t, fs, er, hfs, hf8⟩ := gL.row hxl
      have htg : tgs (M.gr L) x.1 = t := tgs_of er
      have hto : t ∈ allTags := gL.tag _ _ _ er
      rw [drop_get hx] at hrun
      have hrun : tagLv (tgs (M.gr L)) (addK acc t x.2) ((lv (M.fld (M.gr L)) i).drop (j + 1)) = tagAll (tgs (M.gr L)) (M.fld (M.gr L)) (i + 1) := by
        rw [← htg]
        exact hrun
      repeat infer_instance
      refine ⟨t_dic (.inl et), ?_⟩
      repeat infer_instance
      refine sheet_ix er ?_
      repeat infer_instance
      refine row_tag ?_
      repeat infer_instance
      refine get_sD et ?_
      repeat infer_instance
      refine e_ixD (.inr (sK _ _ nzt ecB)) (kd_fits key_nat _ x.1) (v := D.int x.2) ?_ ?_
      · show dget (kd nD D.int (lv (M.fld (M.gr L)) i)) (nD x.1) = _
        rw [kd_get key_nat, aget_of (kok i).nd (List.mem_of_getElem? hx)]
        rfl
      refine e_addI ?_
      repeat infer_instance
      refine sheet_ix er ?_
      repeat infer_instance
      refine row_tag ?_
      refine e_setD et (kd_fits key_str _ t) (by rw [kd_len]; exact szl (by have := tl ok; omega)) ?_
      rw [kd_put key_str]
      exact fin.of ⟨addK acc t x.2, _, rfl, sK.gupE rfl, gup_same, ok.add hto x.2, hrun⟩
    · subst hσ
      rw [List.length_map, kd_len, List.drop_length] at hrun
      have hrun : acc = tagAll (tgs (M.gr L)) (M.fld (M.gr L)) (i + 1) := hrun
      subst hrun
      refine ⟨sK _ _ nzt ecB, ?_⟩
      refine fin.of ⟨_, _, rfl, sH.trans (unl K sK), (gup_ne (Ne.symm nzt)).trans et⟩
  · subst hσ
    rw [List.length_map, has] at et
    have sG3H : Sx no G3 H := ((s4.trans s5).trans s6).cut sH fun b hb => by rw [hb]; exact s4.bk hpt
    have jH : DkJ a c H := j3.mono sG3H
    have tokn := tok (depth + 1)
    have htot := tot_tagAll (tg := tgs (M.gr L)) (f := M.fld (M.gr L)) (S := (· ∈ allTags)) (T := (· < L.length)) gf gL.pos gt (depth + 1)
    generalize hT : tagAll (tgs (M.gr L)) (M.fld (M.gr L)) (depth + 1) = T at et tokn htot
    repeat infer_instance
    refine e_dicK et (kd_str _) (new_run fun p7 H7 hp7 s7 e7 _ => ?_)
    repeat infer_instance
    refine x_arg1 (e_lisK (.inl e7) ⟨pairs_sort _, fun rs hrs _ _ => new_run fun p8 H8 hp8 s8 e8 _ => ?_⟩)
    repeat infer_instance
    subst hrs
    refine e_tuple (.inl e8) ?_
    repeat infer_instance
    refine ⟨rows, depth, rfl, gR, by omega, fun L1 H9 s9 hL1 => ?_⟩
    have : L1 = L := hL1.uniq hL (gR.cl.bis gR.pos)
    subst this
    repeat infer_instance
    refine ⟨rows, depth, rfl, gR, by omega, fun L2 H10 s10 hL2 => ?_⟩
    have : L2 = L1 := hL2.uniq hL (gR.cl.bis gR.pos)
    subst this
    repeat infer_instance
    refine ⟨sz (by simp), new_run fun p11 H11 hp11 s11 e11 _ => ?_⟩
    repeat infer_instance
    refine ⟨sz (by simp), new_run fun p12 H12 hp12 s12 e12 _ => ?_⟩
    repeat infer_instance
    have sH12 := (((((s7.trans s8).trans s9).trans s10).trans s11).trans s12)
    have s7t := sH12 _ _ id et
    refine ⟨(.ref p11, .ref p12), _, rfl, sm_two (s12 _ _ id e11) e12 (lev_pu _ _), by rw [lev_sz]; omega, fun H13 s13 => ?_⟩
    repeat infer_instance
    have et13 := s13 _ _ id s7t
    have elev : levD (M.fld (M.gr L2)) (depth + 1) = .tup (((List.range (depth + 1)).map fun i => tot (lv (M.fld (M.gr L2)) i)).map D.int) := by
      unfold levD
      rw [List.map_map]
      rfl
    rw [elev]
    refine e_sumT ?_
    repeat infer_instance
    refine e_dicK et13 (kd_str _) (new_run fun p14 H14 hp14 s14 e14 _ => ?_)
    repeat infer_instance
    rw [vals_ints] at e14
    refine e_sumL (.inl e14) ?_
    refine e_eqInt ?_
    have heq : ((List.range (depth + 1)).map fun i => tot (lv (M.fld (M.gr L2)) i)).sum = (T.map (·.2)).sum := htot.symm
    rw [decide_eq_true heq]
    show isB _ (.bl false) _
    repeat infer_instance
    refine ⟨rows, depth, rfl, gR, by omega, fun L3 H15 s15 hL3 => ?_⟩
    have : L3 = L2 := hL3.uniq hL (gR.cl.bis gR.pos)
    subst this
    repeat infer_instance
    refine ⟨rows, depth, rfl, gR, by omega, fun L4 H16 s16 hL4 => ?_⟩
    have : L4 = L3 := hL4.uniq hL (gR.cl.bis gR.pos)
    subst this
    rw [hT]
    repeat infer_instance
    refine ⟨sz (by simp), new_run fun p17 H17 hp17 s17 e17 _ => ?_⟩
    repeat infer_instance
    refine ⟨sz (by simp), new_run fun p18 H18 hp18 s18 e18 _ => ?_⟩
    repeat infer_instance
    have tz := tag_sz T
    have tl2 := tl tokn
    refine ⟨(.ref p17, .ref p18), _, rfl, sm_two (s18 _ _ id e17) e18 (tag_pu _), by omega, fun H19 s19 => fin.of ?_⟩
    have sAll : Sx no G3 H19 := (((((((sG3H.trans sH12).trans s13).trans s14).trans s15).trans s16).trans s17).trans s18).trans s19
    exact k H19 (s03.trans sAll.of) (j3.mono sAll)
end
end DL.K81
/-! Q11: what the law itself needs: texts of sheets, parts, words. -/
namespace DL.K81
open PySem PySem.Spec PyProof.Rows L2 DL
local macro_rules
  | `(tactic| infer_instance) => `(tactic| first
    | with_reducible refine x_seq ?_
    | with_reducible refine x_asgN ?_
    | with_reducible refine x_asg ?_
    | with_reducible refine x_drop ?_
    | with_reducible refine x_ret ?_
    | with_reducible refine x_if ?_
    | with_reducible refine x_par ?_
    | with_reducible refine x_par3 ?_
    | with_reducible refine x_next ?_
    | with_reducible refine x_break ?_
    | with_reducible refine x_cont ?_
    | ((with_reducible refine x_var ?_); refine look rfl ?_)
    | with_reducible refine x_c ?_
    | with_reducible refine x_op ?_
    | with_reducible refine x_un ?_
    | with_reducible refine x_nil ?_
    | with_reducible refine x_cons ?_
    | with_reducible refine x_star ?_
    | with_reducible refine x_cb ?_
    | with_reducible refine x_bm ?_
    | with_reducible refine x_call ?_
    | with_reducible refine x_callK ?_
    | with_reducible refine x_tup ?_
    | with_reducible refine x_lst ?_
    | with_reducible refine x_newD ?_
    | with_reducible refine x_test ?_
    | with_reducible refine x_not ?_
    | with_reducible refine x_and ?_
    | with_reducible refine x_or ?_
    | with_reducible refine x_ifE ?_
    | with_reducible refine x_notV ?_
    | with_reducible refine x_yes ?_
    | with_reducible refine x_gname ?_
    | with_reducible refine x_gnil ?_
    | with_reducible refine x_gcons ?_
    | with_reducible refine x_gtup rfl ?_
    | with_reducible refine x_gsub ?_
    | with_reducible refine x_it ?_
    | with_reducible refine x_range1 ?_
    | with_reducible refine x_enum ?_
    | with_reducible refine x_lc ?_
    | with_reducible refine x_dc ?_
    | with_reducible refine x_for ?_
    | with_reducible refine e_rev ?_
    | with_reducible refine x_arg1 ?_
    | with_reducible refine x_arg2 ?_
    | with_reducible refine x_arg3 ?_
    | with_reducible refine x_isB ?_
    | with_reducible refine x_isI ?_
    | with_reducible refine x_items ?_
    | with_reducible refine x_values ?_
    | with_reducible refine x_keys ?_
    | with_reducible refine x_listV ?_
    | with_reducible refine x_sumV ?_
    | with_reducible refine x_listItems ?_
    | with_reducible refine x_sortItems ?_
    | with_reducible refine x_zipL ?_
    | with_reducible refine x_lenSetI ?_
    | with_reducible refine x_sortSet ?_
    | with_reducible refine x_isI' ?_
    | with_reducible refine x_dpN ?_
    | with_reducible refine x_dpC ?_
    | with_reducible refine x_slice ?_
    | with_reducible refine x_noPart ?_
    | with_reducible refine x_part ?_
    | with_reducible refine x_listR2 ?_
    | with_reducible refine x_range2 ?_
    | ((with_reducible refine x_augI ?_); refine augK rfl ?_)
    | with_reducible refine x_ifT ?_
    | with_reducible refine x_ifF ?_
    | with_reducible refine x_ifNT ?_
    | with_reducible refine x_ifNF ?_)
section
/-! texts -/
theorem piled_bound {ts : List Str} {c : Nat} (h : ∀ t ∈ ts, t.length ≤ c) : piled ts ≤ (c + 2) * ts.length := by
  induction ts with
  | nil => exact Nat.zero_le _
  | cons t ts ih =>
    have h1 := h t List.mem_cons_self
    have h2 := ih fun t ht => h t (List.mem_cons_of_mem _ ht)
    show (t.length + 2) + piled ts ≤ _
    rw [List.length_cons, Nat.mul_add]
    omega
theorem tupleText_bound {ts : List Str} {c : Nat} (h : ∀ t ∈ ts, t.length ≤ c) : (tupleText ts).length ≤ (c + 2) * ts.length + 3 := by
  have hb := piled_bound h
  unfold tupleText
  rw [Str.length_append, Str.length_append]
  have h1 : (("(" : String) : Str).length = 1 := by decide +kernel
  have h2 : ((if ts.length == 1 then ",)" else ")" : String) : Str).length ≤ 2 := by
    split <;> decide +kernel
  cases ts with
  | nil =>
    have : (Str.join ", " []).length = 0 := by decide +kernel
    omega
  | cons t ts =>
    have := join_length_add (t :: ts) (by simp)
    omega
theorem shown_int : ∀ n : Nat, n < 60 → (PyData.shown (.int (n : Int))).length ≤ 2 := by decide +kernel
theorem shown_tag : ∀ t ∈ allTags, (PyData.shown (.str t)).length ≤ 12 := by decide +kernel
theorem show_int : ∀ n : Nat, n < 60 → PyData.showable (.int ((n : Nat) : Int)) = true := by decide +kernel
theorem showAll_of : ∀ {xs : List PyData}, (∀ x ∈ xs, PyData.showable x = true) → PyData.showableAll xs = true
  | [], _ => by simp [PyData.showableAll]
  | x :: xs, h => by
    rw [PyData.showableAll, h x List.mem_cons_self, showAll_of fun y hy => h y (List.mem_cons_of_mem _ hy)]
    rfl
theorem dictAll_of : ∀ {xs : List PyData}, (∀ x ∈ xs, PyData.hasDict x = false) → PyData.hasDictAll xs = false
  | [], _ => by simp [PyData.hasDictAll]
  | x :: xs, h => by
    rw [PyData.hasDictAll, h x List.mem_cons_self, dictAll_of fun y hy => h y (List.mem_cons_of_mem _ hy)]
    rfl
theorem shownAll_map : ∀ xs : List PyData, PyData.shownAll xs = xs.map PyData.shown
  | [] => by simp [PyData.shownAll]
  | x :: xs => by rw [PyData.shownAll, shownAll_map xs]; rfl
theorem depthAll_le : ∀ {xs : List PyData} {n : Nat}, (∀ x ∈ xs, PyData.depth x ≤ n) → PyData.depthAll xs ≤ n
  | [], n, _ => by simp [PyData.depthAll]
  | x :: xs, n, h => by
    rw [PyData.depthAll]
    have h1 := h x List.mem_cons_self
    have h2 := depthAll_le (xs := xs) fun y hy => h y (List.mem_cons_of_mem _ hy)
    omega
abbrev nsP (fs : List Nat) : PyData := .tuple (fs.map fun n : Nat => PyData.int (n : Int))
abbrev rowP (p : Str × List Nat) : PyData := .tuple [.str p.1, nsP p.2]
theorem row_dat (p : Str × List Nat) : dat (rowD p) = some (rowP p) := by
  show (match dat (.str p.1), dats [.tup (il p.2)] with | some p, some ps => some (p :: ps) | _, _ => none).map PyData.tuple = _
  have e2 : dats [D.tup (il p.2)] = some [nsP p.2] := by
    show (match (dats (il p.2)).map PyData.tuple, dats [] with | some p, some ps => some (p :: ps) | _, _ => none) = _
    rw [dats_il]
    rfl
  rw [e2]
  rfl
theorem rows_dats : ∀ rows : Sheet, dats (rows.map rowD) = some (rows.map rowP)
  | [] => rfl
  | p :: rows => by
    show (match dat (rowD p), dats (rows.map rowD) with | some p, some ps => some (p :: ps) | _, _ => none) = _
    rw [row_dat, rows_dats rows]
    rfl
theorem Good.shows {rows : Sheet} (h : Good rows) : ∃ p, dat (sheetD rows) = some p ∧ p.showable = true ∧ p.hasDict = false ∧ p.depth ≤ 16 ∧ p.shown.length ≤ sizeLine := by
  have row : ∀ p ∈ rows, TagOk p.1 ∧ p.2.length ≤ 8 ∧ ∀ f ∈ p.2, f < 60 := fun p hp => by
    obtain ⟨i, hi⟩ := List.getElem?_of_mem hp
    obtain ⟨h1, h2⟩ := h.ok i p.1 p.2 hi
    have := h.le
    exact ⟨h.tag i p.1 p.2 hi, h2, fun f hf => Nat.lt_of_lt_of_le (h1 f hf) this⟩
  have nsd : ∀ fs : List Nat, PyData.depth (nsP fs) ≤ 1 := fun fs => by
    have : PyData.depthAll (fs.map fun n : Nat => PyData.int (n : Int)) ≤ 0 := depthAll_le fun x hx => by
      obtain ⟨n, _, rfl⟩ := List.mem_map.mp hx
      simp [PyData.depth]
    simp only [PyData.depth]
    omega
  refine ⟨.tuple (rows.map rowP), ?_, ?_, ?_, ?_, ?_⟩
  · show (dats (rows.map rowD)).map PyData.tuple = _
    rw [rows_dats]
    rfl
  · rw [PyData.showable]
    refine showAll_of fun x hx => ?_
    obtain ⟨p, hp, rfl⟩ := List.mem_map.mp hx
    obtain ⟨_, _, h3⟩ := row p hp
    rw [PyData.showable]
    refine showAll_of fun y hy => ?_
    simp only [List.mem_cons, List.not_mem_nil, or_false] at hy
    rcases hy with rfl | rfl
    · simp [PyData.showable]
    · rw [PyData.showable]
      refine showAll_of fun z hz => ?_
      obtain ⟨n, hn, rfl⟩ := List.mem_map.mp hz
      exact show_int n (h3 n hn)
  · rw [PyData.hasDict]
    refine dictAll_of fun x hx => ?_
    obtain ⟨p, hp, rfl⟩ := List.mem_map.mp hx
    rw [PyData.hasDict]
    refine dictAll_of fun y hy => ?_
    simp only [List.mem_cons, List.not_mem_nil, or_false] at hy
    rcases hy with rfl | rfl
    · simp [PyData.hasDict]
    · rw [PyData.hasDict]
      refine dictAll_of fun z hz => ?_
      obtain ⟨n, hn, rfl⟩ := List.mem_map.mp hz
      simp [PyData.hasDict]
  · have : PyData.depthAll (rows.map rowP) ≤ 2 := depthAll_le fun x hx => by
      obtain ⟨p, hp, rfl⟩ := List.mem_map.mp hx
      have := nsd p.2
      simp only [PyData.depth, PyData.depthAll] at this ⊢
      omega
    simp only [PyData.depth]
    omega
  · have hb : ∀ t ∈ (rows.map rowP).map PyData.shown, t.length ≤ 60 := fun t ht => by
      rw [List.map_map] at ht
      obtain ⟨p, hp, rfl⟩ := List.mem_map.mp ht
      obtain ⟨h1, h2, h3⟩ := row p hp
      have inner : (PyData.shown (nsP p.2)).length ≤ 35 := by
        rw [PyData.shown, shownAll_map]
        have := tupleText_bound (ts := (p.2.map fun n : Nat => PyData.int (n : Int)).map PyData.shown) (c := 2) fun t ht => by
          rw [List.map_map] at ht
          obtain ⟨n, hn, rfl⟩ := List.mem_map.mp ht
          exact shown_int n (h3 n hn)
        rw [List.length_map, List.length_map] at this
        omega
      show (PyData.shown (rowP p)).length ≤ 60
      rw [PyData.shown, shownAll_map]
      have h4 := shown_tag p.1 h1
      -- two texts: the tag's, the fields'
      have e : piled [PyData.shown (.str p.1), PyData.shown (nsP p.2)] ≤ 12 + 35 + 4 := by
        rw [piled_cons, piled_cons, piled_nil]
        omega
      have j := join_length_add [PyData.shown (.str p.1), PyData.shown (nsP p.2)] (by simp)
      unfold tupleText
      rw [Str.length_append, Str.length_append]
      have g1 : (("(" : String) : Str).length = 1 := by decide +kernel
      have g2 : ((if ([PyData.str p.1, nsP p.2].map PyData.shown).length == 1 then ",)" else ")" : String) : Str).length ≤ 2 := by
        split <;> decide +kernel
      have j2 : (Str.join ", " ([PyData.str p.1, nsP p.2].map PyData.shown)).length + 2 = piled [PyData.shown (.str p.1), PyData.shown (nsP p.2)] := j
      omega
    rw [PyData.shown, shownAll_map]
    have := tupleText_bound hb
    have hl := h.le
    rw [List.length_map, List.length_map] at this
    rw [sizeLine_eq]
    omega
theorem repr_run {rows : Sheet} (h : Good rows) : ∃ txt : Str, ∀ (G : Gp) (q : QD), q (.str txt) G → rRepr [sheetD rows] G q := by
  obtain ⟨p, h1, h2, h3, h4, h5⟩ := h.shows
  exact ⟨p.shown, fun G q k => x_arg1 ⟨_, rfl, p, h1, h2, h3, h4, h5, k⟩⟩
/-! due, read as it is held -/
def LookF (o : Option (Option D)) (G : Gp) (q : QD) : Prop := match o with
  | some (some (.ref a)) => match G a with
    | some (.ftp ds) => q (.tup ds) G
    | _ => False
  | _ => False
theorem x_varF {i : Nat} {σ : Sd} {G : Gp} {q : QD} (h : LookF σ[i]? G q) : dVarF i σ G q := h
theorem lookF {o : Option (Option D)} {a : Addr} {ds : List D} {G : Gp} {q : QD} (h : o = some (some (.ref a))) (e : G a = some (.ftp ds)) (k : q (.tup ds) G) : LookF o G q := by
  subst h
  show (match G a with
    | some (.ftp ds) => q (.tup ds) G
    | _ => False)
  rw [e]
  exact k
theorem e_dictF {G : Gp} {a : Addr} {kvs : List (D × D)} {q : QD} (h : G a = some (.ftp (kvs.map fun p => .tup [p.1, p.2]))) (hk : KeysK kvs) (k : newO (.dic (dputs kvs)) q G) : rDictP [.ref a] G q := by
  refine x_arg1 ?_
  show (match G a with
    | some (.lst ds) => _
    | some (.rol ds) => _
    | some (.ftp ds) => _
    | _ => False)
  rw [h]
  exact ⟨kvs, rfl, .inl hk, k⟩
/-! parts -/
/-- a sheet that is least itself -/
structure PartOk (P : Sheet) : Prop where
  good : Good P
  le : P.length ≤ 50
  least : M.IsLeast (M.gr P) 0 P
theorem void_row {i : Nat} {t : Str} {fs : List Nat} (e : ([((("void" : Str)), ([] : List Nat))] : Sheet)[i]? = some (t, fs)) : t = "void" ∧ fs = [] := by
  cases i with
  | zero =>
    simp at e
    exact ⟨e.1.symm, e.2⟩
  | succ i => simp at e
theorem void_good : Good [("void", [])] :=
  ⟨by decide, by decide, fun i t fs e => by
    obtain ⟨rfl, rfl⟩ := void_row e
    exact ⟨fun f hf => (nomatch hf), Nat.zero_le _⟩, fun i t fs e => by
    obtain ⟨rfl, rfl⟩ := void_row e
    decide⟩
theorem void_part : PartOk [("void", [])] where
  good := void_good
  le := by decide
  least := ⟨fun i t fs e => (void_good.ok i t fs e).1, void_good.cl.bis void_good.pos, fun i j hi hj _ => by
      have hi : i < 1 := hi
      have hj : j < 1 := hj
      omega, ⟨1, rfl⟩⟩
/-- what is told of a part -/
def Told (L : Sheet) (fd : List (Nat × List Nat)) (P : Sheet) (v : D) : Prop := (∃ x ∈ fd, M.IsLeast (M.gr L) x.1 P ∧ v = pathD x.2) ∨ ((∀ x ∈ fd, ¬ M.IsLeast (M.gr L) x.1 P) ∧ v = .non)
theorem Told.uniq {L : Sheet} {fd : List (Nat × List Nat)} {P : Sheet} {v v' : D} (sep : ∀ i j, i < L.length → j < L.length → M.Bis (M.gr L) i (M.gr L) j → i = j) (bok : M.BOk (M.fld (M.gr L)) L.length fd) (h : Told L fd P v) (h' : Told L fd P v') : v = v' := by
  rcases h with ⟨x, hx, lx, e⟩ | ⟨h, e⟩
  · rcases h' with ⟨y, hy, ly, e'⟩ | ⟨h', e'⟩
    · have exy : x.1 = y.1 := sep _ _ (bok.lt x hx) (bok.lt y hy) (lx.bis.trans ly.bis.symm)
      have h1 := aget_of bok.nd hx
      have h2 := aget_of bok.nd hy
      rw [exy, h2] at h1
      rw [e, e', Option.some.inj h1]
    · exact absurd lx (h' x hx)
  · rcases h' with ⟨y, hy, ly, e'⟩ | ⟨h', e'⟩
    · exact absurd ly (h y hy)
    · rw [e, e']
theorem Told.pu {L : Sheet} {fd : List (Nat × List Nat)} {P : Sheet} {v : D} (h : Told L fd P v) (hs : ∀ x ∈ fd, x.2.length ≤ 60) : puB v = true ∧ dsz v ≤ 100 := by
  rcases h with ⟨x, hx, _, rfl⟩ | ⟨_, rfl⟩
  · have := hs x hx
    refine ⟨?_, ?_⟩
    · unfold pathD
      rw [puB]
      refine puBs_all.mpr fun d hd => ?_
      obtain ⟨n, _, rfl⟩ := List.mem_map.mp hd
      rfl
    · unfold pathD
      rw [dsz, dszs_sum, List.map_map]
      have : ∀ l : List Nat, (l.map (dsz ∘ nD)).sum = l.length := fun l => by
        induction l with
        | nil => rfl
        | cons x l ih =>
          rw [List.map_cons, List.sum_cons, ih, List.length_cons]
          show 1 + l.length = _
          omega
      rw [this]
      omega
  · exact ⟨rfl, by decide⟩
theorem paths_pu (fd : List (Nat × List Nat)) : puB (pathsD fd) = true := by
  unfold pathsD
  rw [puB]
  refine puBs_all.mpr fun d hd => ?_
  obtain ⟨x, _, rfl⟩ := List.mem_map.mp hd
  unfold fdD pathD
  rw [puB, puBs, puBs, puBs, puB]
  have : puBs (il x.2) = true := puBs_all.mpr fun d hd => by
    obtain ⟨n, _, rfl⟩ := List.mem_map.mp hd
    rfl
  rw [this]
  rfl
theorem path_sz (p : List Nat) : dsz (pathD p) = p.length + 1 := by
  unfold pathD
  rw [dsz, dszs_sum, List.map_map]
  have : ∀ l : List Nat, (l.map (dsz ∘ nD)).sum = l.length := fun l => by
    induction l with
    | nil => rfl
    | cons x l ih =>
      rw [List.map_cons, List.sum_cons, ih, List.length_cons]
      show 1 + l.length = _
      omega
  rw [this]
theorem paths_sz {fd : List (Nat × List Nat)} (h : ∀ x ∈ fd, x.2.length ≤ 60) : dsz (pathsD fd) ≤ 63 * fd.length + 1 := by
  unfold pathsD
  rw [dsz, dszs_sum, List.map_map]
  have : ∀ l : List (Nat × List Nat), (∀ x ∈ l, x.2.length ≤ 60) → (l.map (dsz ∘ fdD)).sum ≤ 63 * l.length := fun l => by
    induction l with
    | nil => exact fun _ => Nat.le_refl _
    | cons x l ih =>
      intro h
      have h1 := ih fun y hy => h y (List.mem_cons_of_mem _ hy)
      have h2 := h x List.mem_cons_self
      rw [List.map_cons, List.sum_cons, List.length_cons]
      have : (dsz ∘ fdD) x = 1 + (x.2.length + 1) + 1 := by
        show dsz (fdD x) = _
        unfold fdD
        rw [dsz, dszs, dszs, dszs, path_sz]
        show 1 + (x.2.length + 1 + 0) + 1 = _
        omega
      omega
  have := this fd h
  omega
theorem find_head {α : Type} {l : List α} {b : α → Bool} {f : α → D} : ((l.filter b).map f ++ [D.non])[0]? = some (match l.find? b with | some x => f x | none => .non) := by
  have h := List.head?_filter (p := b) (l := l)
  cases e : l.filter b with
  | nil =>
    rw [e] at h
    rw [← h]
    rfl
  | cons x xs =>
    rw [e] at h
    rw [← h]
    rfl
def headD (o : Option (Nat × List Nat)) : D := match o with
  | some x => pathD x.2
  | none => .non
theorem find_headP {l : List (Nat × List Nat)} {b : Nat × List Nat → Bool} : ((l.filter b).map (fun x => pathD x.2) ++ [D.non])[0]? = some (headD (l.find? b)) := by
  rw [find_head]
  cases l.find? b <;> rfl
end
end DL.K81
/-! R4: readings and derivations of defs of k81's text; printed by gen.py. -/
namespace DL.K81
open PySem PySem.Spec PyProof.Rows L2 DL
section
variable {P : Program} {w : World} {K : PySem.W.Frag} {mg : Str → Option Value} {base : Heap} {f : Addr} {fd : FuncData}
abbrev Nlaw : List Str := ["script", "deck", "turn", "sign", "sheet", "rows", "text", "due", "told", "at", "path", "parts", "part", "goal", "tag", "name", "count"]
theorem sclaw : FnScope Nlaw ["script"] (defScope (top 33)) := ⟨rfl, rfl, rfl, by decide +kernel, rfl, by decide +kernel, by decide +kernel⟩
def tlaw (SLdeck : SpD) (SLsignature : SpD) (SLdisguised : SpD) (SLdrawnsheet : SpD) (SLleast : SpD) (SLfirstpaths : SpD) (Sfirstpaths : SpD) (SLsame : SpD) (SLrowat : SpD) (SLpick : SpD) (Spathtopart : SpD) (SLtags : SpD) (Spathtotag : SpD) (SLarecountsright : SpD) : TSd := (dSeq (dAsg (dCall SLdeck [] (dCons (dVar 0) dNil)) (dName 1)) (dSeq (dFor (dRange1 (dCons (dC (.int 5)) dNil)) (dName 2) (dSeq (dAsg (dCall SLsignature [] (dCons (dVar 1) (dCons (dC (.int 4)) dNil))) (dName 3)) (dSeq (dAsg (dCall SLdisguised [] (dCons (dVar 1) (dCons (dCall SLdrawnsheet [] (dCons (dVar 1) (dCons (dVar 3) (dCons (dC (.int 8)) dNil)))) dNil))) (dName 4)) (dSeq (dAsg (dTup (dCons (dCall SLleast [.int 0] (dCons (dVar 4) dNil)) (dCons (dCB rRepr (dCons (dVar 4) dNil)) dNil))) (dTupG 2 (dGcons (dName 5) (dGcons (dName 6) dGnil)))) (dSeq (dAsg (dCall SLfirstpaths [] (dCons (dVar 5) dNil)) (dName 7)) (dSeq (dAsg (dLst (dCons (dCall Sfirstpaths [] (dCons (dVar 4) dNil)) (dCons (dCallK Sfirstpaths oneW (dCons (dCall SLdisguised [] (dCons (dVar 1) (dCons (dVar 4) dNil))) dNil)) dNil))) (dName 8)) (dSeq (dIf (dOr (dNot (dTest (dCall SLsame [] (dCons (dVar 8) (dCons (dLst (dCons (dVarF 7) (dCons (dVarF 7) dNil))) dNil))))) (dTest (dOp (rEqv true) (dLc (dIt (dOp rIx (dVar 8) (dC (.int 0)))) (.tp [9, 10]) (dTest (dOp (rEqv true) (dCall SLrowat [] (dCons (dVar 5) (dCons (dVar 10) dNil))) (dVar 9))) (dC (.int 1)) [9, 10]) (dLst dNil)))) (dRet (dC (.bl false))) dNext) (dSeq (dAsg (dLc (dRange1 (dCons (dCB rLen (dCons (dVar 5) dNil)) dNil)) (.nm 9) dYes (dCall SLleast [] (dCons (dVar 5) (dCons (dVar 9) dNil))) [9]) (dName 11)) (dSeq (dFor (dIt (dLst (dCons (dCall SLpick [] (dCons (dVar 1) (dCons (dVar 11) dNil))) (dCons (dCall SLpick [] (dCons (dVar 1) (dCons (dVar 11) dNil))) (dCons (dCall SLleast [.int 0] (dCons (dCall SLdrawnsheet [] (dCons (dVar 1) (dCons (dVar 3) (dCons (dC (.int 3)) dNil)))) dNil)) (dCons (dTup (dCons (dTup (dCons (dC (.str "void")) (dCons (dTup dNil) dNil))) dNil)) dNil)))))) (dName 12) (dSeq (dAsg (dIfE (dTest (dOp (rIn false) (dVar 12) (dVar 11))) (dOp rIx (dCB rDictP (dCons (dVar 7) dNil)) (dBM "list" rIndexL (dVar 11) (dCons (dVar 12) dNil))) (dC .non)) (dName 13)) (dSeq (dAsg (dLst (dCons (dCall Spathtopart [] (dCons (dVar 4) (dCons (dVar 12) dNil))) (dCons (dCallK Spathtopart twoW (dCons (dCall SLdisguised [] (dCons (dVar 1) (dCons (dVar 12) dNil))) (dCons (dVar 4) dNil))) dNil))) (dName 8)) (dIf (dNot (dTest (dCall SLsame [] (dCons (dVar 8) (dCons (dLst (dCons (dVar 13) (dCons (dVar 13) dNil))) dNil))))) (dRet (dC (.bl false))) dNext)))) (dSeq (dFor (dIt (dOp rAdd (dLc (dIt (dCall SLtags [] (dCons (dVar 3) dNil))) (.tp [15, 16]) dYes (dVar 15) [15, 16]) (dLst (dCons (dC (.str "qqqqqqqq")) dNil)))) (dName 14) (dSeq (dAsg (dOp rIx (dOp rAdd (dLc (dIt (dVarF 7)) (.tp [9, 10]) (dTest (dOp (rEqv false) (dOp rIx (dOp rIx (dVar 5) (dVar 9)) (dC (.int 0))) (dVar 14))) (dVar 10) [9, 10]) (dLst (dCons (dC .non) dNil))) (dC (.int 0))) (dName 13)) (dIf (dNot (dTest (dCall SLsame [] (dCons (dLst (dCons (dCall Spathtotag [] (dCons (dVar 4) (dCons (dVar 14) dNil))) (dCons (dCallK Spathtotag twoW (dCons (dVar 14) (dCons (dVar 4) dNil))) dNil))) (dCons (dLst (dCons (dVar 13) (dCons (dVar 13) dNil))) dNil))))) (dRet (dC (.bl false))) dNext))) (dIf (dOr (dNot (dTest (dCall SLarecountsright [] (dCons (dVar 1) (dCons (dVar 5) (dCons (dVar 4) dNil)))))) (dTest (dOp (rEqv true) (dCB rRepr (dCons (dVar 4) dNil)) (dVar 6)))) (dRet (dC (.bl false))) dNext))))))))))) (dRet (dC (.bl true)))))
theorem derlaw (gs : Gs mg) {aLdeck : Addr} {dLdeck : FuncData} {SLdeck : SpD} (FLdeck : FnP K "_law_deck" (top 16) aLdeck dLdeck) (GLdeck : FnOk P w K mg base CX0 1 aLdeck dLdeck ["script"] (liftSp ⟨K, P, w⟩ SLdeck)) (gLdeck : mg "_law_deck" = some (.ref aLdeck)) {aLsignature : Addr} {dLsignature : FuncData} {SLsignature : SpD} (FLsignature : FnP K "_law_signature" (top 21) aLsignature dLsignature) (GLsignature : FnOk P w K mg base CX0 3 aLsignature dLsignature ["deck", "most"] (liftSp ⟨K, P, w⟩ SLsignature)) (gLsignature : mg "_law_signature" = some (.ref aLsignature)) {aLdisguised : Addr} {dLdisguised : FuncData} {SLdisguised : SpD} (FLdisguised : FnP K "_law_disguised" (top 28) aLdisguised dLdisguised) (GLdisguised : FnOk P w K mg base CX0 3 aLdisguised dLdisguised ["deck", "rows"] (liftSp ⟨K, P, w⟩ SLdisguised)) (gLdisguised : mg "_law_disguised" = some (.ref aLdisguised)) {aLdrawnsheet : Addr} {dLdrawnsheet : FuncData} {SLdrawnsheet : SpD} (FLdrawnsheet : FnP K "_law_drawn_sheet" (top 23) aLdrawnsheet dLdrawnsheet) (GLdrawnsheet : FnOk P w K mg base CX0 3 aLdrawnsheet dLdrawnsheet ["deck", "sign", "most"] (liftSp ⟨K, P, w⟩ SLdrawnsheet)) (gLdrawnsheet : mg "_law_drawn_sheet" = some (.ref aLdrawnsheet)) {aLleast : Addr} {dLleast : FuncData} {SLleast : SpD} (FLleast : FnP1 K "_law_least" (top 27) aLleast dLleast) (GLleast : FnOk P w K mg base CX0 3 aLleast dLleast ["rows", "root"] (liftSp ⟨K, P, w⟩ SLleast)) (gLleast : mg "_law_least" = some (.ref aLleast)) {aLfirstpaths : Addr} {dLfirstpaths : FuncData} {SLfirstpaths : SpD} (FLfirstpaths : FnP K "_law_first_paths" (top 29) aLfirstpaths dLfirstpaths) (GLfirstpaths : FnOk P w K mg base CX0 1 aLfirstpaths dLfirstpaths ["rows"] (liftSp ⟨K, P, w⟩ SLfirstpaths)) (gLfirstpaths : mg "_law_first_paths" = some (.ref aLfirstpaths)) {afirstpaths : Addr} {dfirstpaths : FuncData} {Sfirstpaths : SpD} (Ffirstpaths : FnP K "first_paths" (top 9) afirstpaths dfirstpaths) (Gfirstpaths : FnOk P w K mg base CX0 5 afirstpaths dfirstpaths ["sheet"] (liftSp ⟨K, P, w⟩ Sfirstpaths)) (gfirstpaths : mg "first_paths" = some (.ref afirstpaths)) {aLsame : Addr} {dLsame : FuncData} {SLsame : SpD} (FLsame : FnP K "_law_same" (top 20) aLsame dLsame) (GLsame : FnOk P w K mg base CX0 1 aLsame dLsame ["told", "due"] (liftSp ⟨K, P, w⟩ SLsame)) (gLsame : mg "_law_same" = some (.ref aLsame)) {aLrowat : Addr} {dLrowat : FuncData} {SLrowat : SpD} (FLrowat : FnP K "_law_row_at" (top 32) aLrowat dLrowat) (GLrowat : FnOk P w K mg base CX0 1 aLrowat dLrowat ["rows", "path"] (liftSp ⟨K, P, w⟩ SLrowat)) (gLrowat : mg "_law_row_at" = some (.ref aLrowat)) {aLpick : Addr} {dLpick : FuncData} {SLpick : SpD} (FLpick : FnP K "_law_pick" (top 18) aLpick dLpick) (GLpick : FnOk P w K mg base CX0 2 aLpick dLpick ["deck", "some"] (liftSp ⟨K, P, w⟩ SLpick)) (gLpick : mg "_law_pick" = some (.ref aLpick)) {apathtopart : Addr} {dpathtopart : FuncData} {Spathtopart : SpD} (Fpathtopart : FnP K "path_to_part" (top 10) apathtopart dpathtopart) (Gpathtopart : FnOk P w K mg base CX0 6 apathtopart dpathtopart ["sheet", "part"] (liftSp ⟨K, P, w⟩ Spathtopart)) (gpathtopart : mg "path_to_part" = some (.ref apathtopart)) {aLtags : Addr} {dLtags : FuncData} {SLtags : SpD} (FLtags : FnP K "_law_tags" (top 22) aLtags dLtags) (GLtags : FnOk P w K mg base CX0 1 aLtags dLtags ["sign"] (liftSp ⟨K, P, w⟩ SLtags)) (gLtags : mg "_law_tags" = some (.ref aLtags)) {apathtotag : Addr} {dpathtotag : FuncData} {Spathtotag : SpD} (Fpathtotag : FnP K "path_to_tag" (top 12) apathtotag dpathtotag) (Gpathtotag : FnOk P w K mg base CX0 6 apathtotag dpathtotag ["sheet", "tag"] (liftSp ⟨K, P, w⟩ Spathtotag)) (gpathtotag : mg "path_to_tag" = some (.ref apathtotag)) {aLarecountsright : Addr} {dLarecountsright : FuncData} {SLarecountsright : SpD} (FLarecountsright : FnP K "_law_are_counts_right" (top 31) aLarecountsright dLarecountsright) (GLarecountsright : FnOk P w K mg base CX0 6 aLarecountsright dLarecountsright ["deck", "rows", "sheet"] (liftSp ⟨K, P, w⟩ SLarecountsright)) (gLarecountsright : mg "_law_are_counts_right" = some (.ref aLarecountsright)) (cdv : Value) (A : Around) (outer : List Env) (s : Shared) (H : Hp) (E : XK) (hr : Room 6 (A.deeper (envOfC "law" (defScope (top 33)) s.heap.objs.size f cdv))) (hgd : (A.deeper (envOfC "law" (defScope (top 33)) s.heap.objs.size f cdv)).guards = some []) :
    QSs (cxOf CX0 P w K mg base Nlaw "law" (defScope (top 33)) f cdv A outer s H E) (defBody (top 33)) (tlaw SLdeck SLsignature SLdisguised SLdrawnsheet SLleast SLfirstpaths Sfirstpaths SLsame SLrowat SLpick Spathtopart SLtags Spathtotag SLarecountsright) := by
  have bLdeck : Binds K dLdeck ["script"] [] := FLdeck.bindsN fun _ _ _ _ _ _ us hl => match us, hl with | [_], _ => rfl
  have bLsignature : Binds K dLsignature ["deck", "most"] [] := FLsignature.bindsN fun _ _ _ _ _ _ us hl => match us, hl with | [_, _], _ => rfl
  have bLdisguised : Binds K dLdisguised ["deck", "rows"] [] := FLdisguised.bindsN fun _ _ _ _ _ _ us hl => match us, hl with | [_, _], _ => rfl
  have bLdrawnsheet : Binds K dLdrawnsheet ["deck", "sign", "most"] [] := FLdrawnsheet.bindsN fun _ _ _ _ _ _ us hl => match us, hl with | [_, _, _], _ => rfl
  obtain ⟨eLleast1, bLleast1⟩ : ∃ ds, Vals [V.int 0] ds ∧ Binds K dLleast ["rows", "root"] ds := FLleast.binds1 1 0 (by simp) rfl fun T kV doc pm an cdv ct us its hl hi => match us, its, hl, hi with | [_], [_], _, _ => ⟨_, rfl, rfl⟩
  obtain ⟨eLleast2, bLleast2⟩ : ∃ ds, Vals ([] : List V) ds ∧ Binds K dLleast ["rows", "root"] ds := FLleast.binds1 2 1 (by simp) rfl fun T kV doc pm an cdv ct us its hl hi => match us, its, hl, hi with | [_, _], [_], _, _ => ⟨_, rfl, rfl⟩
  have bLfirstpaths : Binds K dLfirstpaths ["rows"] [] := FLfirstpaths.bindsN fun _ _ _ _ _ _ us hl => match us, hl with | [_], _ => rfl
  have kfirstpaths : KBinds K dfirstpaths ["sheet"] ["sheet"] oneW oneW := kb_one Ffirstpaths (by intros; rfl)
  have bfirstpaths : Binds K dfirstpaths ["sheet"] [] := Ffirstpaths.bindsN fun _ _ _ _ _ _ us hl => match us, hl with | [_], _ => rfl
  have bLsame : Binds K dLsame ["told", "due"] [] := FLsame.bindsN fun _ _ _ _ _ _ us hl => match us, hl with | [_, _], _ => rfl
  have bLrowat : Binds K dLrowat ["rows", "path"] [] := FLrowat.bindsN fun _ _ _ _ _ _ us hl => match us, hl with | [_, _], _ => rfl
  have bLpick : Binds K dLpick ["deck", "some"] [] := FLpick.bindsN fun _ _ _ _ _ _ us hl => match us, hl with | [_, _], _ => rfl
  have kpathtopart : KBinds K dpathtopart ["sheet", "part"] ["part", "sheet"] twoW twoW := kb_two Fpathtopart (by intros; rfl)
  have bpathtopart : Binds K dpathtopart ["sheet", "part"] [] := Fpathtopart.bindsN fun _ _ _ _ _ _ us hl => match us, hl with | [_, _], _ => rfl
  have bLtags : Binds K dLtags ["sign"] [] := FLtags.bindsN fun _ _ _ _ _ _ us hl => match us, hl with | [_], _ => rfl
  have kpathtotag : KBinds K dpathtotag ["sheet", "tag"] ["tag", "sheet"] twoW twoW := kb_two Fpathtotag (by intros; rfl)
  have bpathtotag : Binds K dpathtotag ["sheet", "tag"] [] := Fpathtotag.bindsN fun _ _ _ _ _ _ us hl => match us, hl with | [_, _], _ => rfl
  have bLarecountsright : Binds K dLarecountsright ["deck", "rows", "sheet"] [] := FLarecountsright.bindsN fun _ _ _ _ _ _ us hl => match us, hl with | [_, _, _], _ => rfl
  exact PSs.nox (qss_cons (qs_set (i := 1) sclaw.nd rfl (by first | exact Or.inl rfl | exact Or.inr rfl) (qe_call GLdeck (hr.mono (by decide)) rfl gLdeck FLdeck.kp bLdeck .nil (fun _ => rfl) (qa_cons (qv 0) qa_nil))) (qss_cons (qs_for .never rfl (qi_range1 rfl gs.range (qa_cons qe_int qa_nil)) (qg_name (i := 2) sclaw.nd rfl (by first | exact Or.inl rfl | exact Or.inr rfl)) (qss_cons (qs_set (i := 3) sclaw.nd rfl (by first | exact Or.inl rfl | exact Or.inr rfl) (qe_call GLsignature (hr.mono (by decide)) rfl gLsignature FLsignature.kp bLsignature .nil (fun _ => rfl) (qa_cons (qv 1) (qa_cons qe_int qa_nil)))) (qss_cons (qs_set (i := 4) sclaw.nd rfl (by first | exact Or.inl rfl | exact Or.inr rfl) (qe_call GLdisguised (hr.mono (by decide)) rfl gLdisguised FLdisguised.kp bLdisguised .nil (fun _ => rfl) (qa_cons (qv 1) (qa_cons (qe_call GLdrawnsheet (hr.mono (by decide)) rfl gLdrawnsheet FLdrawnsheet.kp bLdrawnsheet .nil (fun _ => rfl) (qa_cons (qv 1) (qa_cons (qv 3) (qa_cons qe_int qa_nil)))) qa_nil)))) (qss_cons (qs_asg (qe_tup (qa_cons (qe_call GLleast (hr.mono (by decide)) rfl gLleast FLleast.kp bLleast1.2 bLleast1.1 (fun _ => RelDs.cons rfl RelDs.nil) (qa_cons (qv 4) qa_nil)) (qa_cons (qe_callB (cd_repr hgd (room_u hr)) rfl gs.repr rfl (qa_cons (qv 4) qa_nil)) qa_nil))) (qg_tup rfl (qgs_cons (qg_name (i := 5) sclaw.nd rfl (by first | exact Or.inl rfl | exact Or.inr rfl)) (qgs_cons (qg_name (i := 6) sclaw.nd rfl (by first | exact Or.inl rfl | exact Or.inr rfl)) qgs_nil)))) (qss_cons (qs_set (i := 7) sclaw.nd rfl (by first | exact Or.inl rfl | exact Or.inr rfl) (qe_call GLfirstpaths (hr.mono (by decide)) rfl gLfirstpaths FLfirstpaths.kp bLfirstpaths .nil (fun _ => rfl) (qa_cons (qv 5) qa_nil))) (qss_cons (qs_set (i := 8) sclaw.nd rfl (by first | exact Or.inl rfl | exact Or.inr rfl) (qe_lst (qa_cons (qe_call Gfirstpaths (hr.mono (by decide)) rfl gfirstpaths Ffirstpaths.kp bfirstpaths .nil (fun _ => rfl) (qa_cons (qv 4) qa_nil)) (qa_cons (qe_callK0 Gfirstpaths (hr.mono (by decide)) rfl gfirstpaths Ffirstpaths.kp kfirstpaths rels_one (qk_cons (qe_call GLdisguised (hr.mono (by decide)) rfl gLdisguised FLdisguised.kp bLdisguised .nil (fun _ => rfl) (qa_cons (qv 1) (qa_cons (qv 4) qa_nil))) qk_nil)) qa_nil)))) (qss_cons (qs_if (PW.pt (qw_or (qt_not (qt_val (qe_call GLsame (hr.mono (by decide)) rfl gLsame FLsame.kp bLsame .nil (fun _ => rfl) (qa_cons (qv 8) (qa_cons (qe_lst (qa_cons (qvF 7) (qa_cons (qvF 7) qa_nil))) qa_nil))))) (qw_or1 (qt_cmp (od_ne (room_u hr)) (qe_lc (own := [("at", 9), ("path", 10)]) rfl sclaw.nd (qi_it (qe_ix (room_u hr) (qv 8) qe_int (fun _ _ => rfl))) (blkOk_by (N := Nlaw) (sc := defScope (top 33)) (by decide +kernel)) (by decide) (fun _ _ _ _ _ => (pg_tup rfl (pgs_cons (pg_name (i := 9) sclaw.nd rfl (by first | exact Or.inl rfl | exact Or.inr rfl)) (pgs_cons (pg_name (i := 10) sclaw.nd rfl (by first | exact Or.inl rfl | exact Or.inr rfl)) pgs_nil)) rfl rfl)) (fun _ _ _ _ _ => (qts_one (qt_cmp (od_ne (room_u hr)) (qe_call GLrowat (hr.mono (by decide)) rfl gLrowat FLrowat.kp bLrowat .nil (fun _ => rfl) (qa_cons (qv 5) (qa_cons (qv 10) qa_nil))) (qv 9) rfl))) (fun _ _ _ _ _ => qe_int)) (qe_lst qa_nil) rfl)))) (qss_one (qs_ret qe_bl)) qss_nil) (qss_cons (qs_setLc (i := 11) (own := [("at", 9)]) rfl sclaw.nd rfl rfl (sw_true rfl rfl rfl (by decide +kernel)) (qi_range1 rfl gs.range (qa_cons (qe_callB cd_len rfl gs.len rfl (qa_cons (qv 5) qa_nil)) qa_nil)) (blkOk_by (N := Nlaw) (sc := defScope (top 33)) (by decide +kernel)) (by decide) (fun _ _ _ _ _ => (pg_name (i := 9) sclaw.nd rfl (by first | exact Or.inl rfl | exact Or.inr rfl))) (fun _ _ _ _ _ => qts_nil) (fun _ _ _ _ _ => (qe_call GLleast (hr.mono (by decide)) rfl gLleast FLleast.kp bLleast2.2 bLleast2.1 (fun _ => rfl) (qa_cons (qv 5) (qa_cons (qv 9) qa_nil))))) (qss_cons (qs_for .never rfl (qi_it (qe_lst (qa_cons (qe_call GLpick (hr.mono (by decide)) rfl gLpick FLpick.kp bLpick .nil (fun _ => rfl) (qa_cons (qv 1) (qa_cons (qv 11) qa_nil))) (qa_cons (qe_call GLpick (hr.mono (by decide)) rfl gLpick FLpick.kp bLpick .nil (fun _ => rfl) (qa_cons (qv 1) (qa_cons (qv 11) qa_nil))) (qa_cons (qe_call GLleast (hr.mono (by decide)) rfl gLleast FLleast.kp bLleast1.2 bLleast1.1 (fun _ => RelDs.cons rfl RelDs.nil) (qa_cons (qe_call GLdrawnsheet (hr.mono (by decide)) rfl gLdrawnsheet FLdrawnsheet.kp bLdrawnsheet .nil (fun _ => rfl) (qa_cons (qv 1) (qa_cons (qv 3) (qa_cons qe_int qa_nil)))) qa_nil)) (qa_cons (qe_tup (qa_cons (qe_tup (qa_cons qe_str (qa_cons (qe_tup qa_nil) qa_nil))) qa_nil)) qa_nil)))))) (qg_name (i := 12) sclaw.nd rfl (by first | exact Or.inl rfl | exact Or.inr rfl)) (qss_cons (qs_set (i := 13) sclaw.nd rfl (by first | exact Or.inl rfl | exact Or.inr rfl) (qe_if (qt_cmp (od_in (room_v hr)) (qv 12) (qv 11) rfl) (qe_ix (room_u hr) (qe_callTy (cd_dictP rfl (room_u hr)) rfl gs.dict rfl (qa_cons (qv 7) qa_nil)) (qe_bm PySem.F.plainAttrs_list PySem.F.slot_list_index rfl (mtd_index (room_v hr)) (qv 11) (qa_cons (qv 12) qa_nil)) (fun _ _ => rfl)) qe_non)) (qss_cons (qs_set (i := 8) sclaw.nd rfl (by first | exact Or.inl rfl | exact Or.inr rfl) (qe_lst (qa_cons (qe_call Gpathtopart hr rfl gpathtopart Fpathtopart.kp bpathtopart .nil (fun _ => rfl) (qa_cons (qv 4) (qa_cons (qv 12) qa_nil))) (qa_cons (qe_callK0 Gpathtopart hr rfl gpathtopart Fpathtopart.kp kpathtopart rels_two (qk_cons (qe_call GLdisguised (hr.mono (by decide)) rfl gLdisguised FLdisguised.kp bLdisguised .nil (fun _ => rfl) (qa_cons (qv 1) (qa_cons (qv 12) qa_nil))) (qk_cons (qv 4) qk_nil))) qa_nil)))) (qss_one (qs_if (qt_not (qt_val (qe_call GLsame (hr.mono (by decide)) rfl gLsame FLsame.kp bLsame .nil (fun _ => rfl) (qa_cons (qv 8) (qa_cons (qe_lst (qa_cons (qv 13) (qa_cons (qv 13) qa_nil))) qa_nil))))) (qss_one (qs_ret qe_bl)) qss_nil))))) (qss_cons (qs_for .never rfl (qi_it (qe_op od_add (qe_lc (own := [("name", 15), ("count", 16)]) rfl sclaw.nd (qi_it (qe_call GLtags (hr.mono (by decide)) rfl gLtags FLtags.kp bLtags .nil (fun _ => rfl) (qa_cons (qv 3) qa_nil))) (blkOk_by (N := Nlaw) (sc := defScope (top 33)) (by decide +kernel)) (by decide) (fun _ _ _ _ _ => (pg_tup rfl (pgs_cons (pg_name (i := 15) sclaw.nd rfl (by first | exact Or.inl rfl | exact Or.inr rfl)) (pgs_cons (pg_name (i := 16) sclaw.nd rfl (by first | exact Or.inl rfl | exact Or.inr rfl)) pgs_nil)) rfl rfl)) (fun _ _ _ _ _ => qts_nil) (fun _ _ _ _ _ => (qv 15))) (qe_lst (qa_cons qe_str qa_nil)))) (qg_name (i := 14) sclaw.nd rfl (by first | exact Or.inl rfl | exact Or.inr rfl)) (qss_cons (qs_set (i := 13) sclaw.nd rfl (by first | exact Or.inl rfl | exact Or.inr rfl) (qe_ix (room_u hr) (qe_op od_add (qe_lc (own := [("at", 9), ("path", 10)]) rfl sclaw.nd (qi_it (qvF 7)) (blkOk_by (N := Nlaw) (sc := defScope (top 33)) (by decide +kernel)) (by decide) (fun _ _ _ _ _ => (pg_tup rfl (pgs_cons (pg_name (i := 9) sclaw.nd rfl (by first | exact Or.inl rfl | exact Or.inr rfl)) (pgs_cons (pg_name (i := 10) sclaw.nd rfl (by first | exact Or.inl rfl | exact Or.inr rfl)) pgs_nil)) rfl rfl)) (fun _ _ _ _ _ => (qts_one (qt_cmp (od_eq (room_u hr)) (qe_ix (room_u hr) (qe_ix (room_u hr) (qv 5) (qv 9) (fun _ _ => rfl)) qe_int (fun _ _ => rfl)) (qv 14) rfl))) (fun _ _ _ _ _ => (qv 10))) (qe_lst (qa_cons qe_non qa_nil))) qe_int (fun _ _ => rfl))) (qss_one (qs_if (qt_not (qt_val (qe_call GLsame (hr.mono (by decide)) rfl gLsame FLsame.kp bLsame .nil (fun _ => rfl) (qa_cons (qe_lst (qa_cons (qe_call Gpathtotag hr rfl gpathtotag Fpathtotag.kp bpathtotag .nil (fun _ => rfl) (qa_cons (qv 4) (qa_cons (qv 14) qa_nil))) (qa_cons (qe_callK0 Gpathtotag hr rfl gpathtotag Fpathtotag.kp kpathtotag rels_two (qk_cons (qv 14) (qk_cons (qv 4) qk_nil))) qa_nil))) (qa_cons (qe_lst (qa_cons (qv 13) (qa_cons (qv 13) qa_nil))) qa_nil))))) (qss_one (qs_ret qe_bl)) qss_nil)))) (qss_one (qs_if (PW.pt (qw_or (qt_not (qt_val (qe_call GLarecountsright hr rfl gLarecountsright FLarecountsright.kp bLarecountsright .nil (fun _ => rfl) (qa_cons (qv 1) (qa_cons (qv 5) (qa_cons (qv 4) qa_nil)))))) (qw_or1 (qt_cmp (od_ne (room_u hr)) (qe_callB (cd_repr hgd (room_u hr)) rfl gs.repr rfl (qa_cons (qv 4) qa_nil)) (qv 6) rfl)))) (qss_one (qs_ret qe_bl)) qss_nil)))))))))))) (qss_one (qs_ret qe_bl))))
end
end DL.K81
/-! Q12: the law keeps its promise: True. -/
namespace DL.K81
open PySem PySem.Spec PyProof.Rows L2 DL
local macro_rules
  | `(tactic| infer_instance) => `(tactic| first
    | with_reducible refine x_seq ?_
    | with_reducible refine x_asgN ?_
    | with_reducible refine x_asg ?_
    | with_reducible refine x_drop ?_
    | with_reducible refine x_ret ?_
    | with_reducible refine x_if ?_
    | with_reducible refine x_par ?_
    | with_reducible refine x_par3 ?_
    | with_reducible refine x_next ?_
    | with_reducible refine x_break ?_
    | with_reducible refine x_cont ?_
    | ((with_reducible refine x_var ?_); refine look rfl ?_)
    | with_reducible refine x_c ?_
    | with_reducible refine x_op ?_
    | with_reducible refine x_un ?_
    | with_reducible refine x_nil ?_
    | with_reducible refine x_cons ?_
    | with_reducible refine x_star ?_
    | with_reducible refine x_cb ?_
    | with_reducible refine x_bm ?_
    | with_reducible refine x_call ?_
    | with_reducible refine x_callK ?_
    | with_reducible refine x_tup ?_
    | with_reducible refine x_lst ?_
    | with_reducible refine x_newD ?_
    | with_reducible refine x_test ?_
    | with_reducible refine x_not ?_
    | with_reducible refine x_and ?_
    | with_reducible refine x_or ?_
    | with_reducible refine x_ifE ?_
    | with_reducible refine x_notV ?_
    | with_reducible refine x_yes ?_
    | with_reducible refine x_gname ?_
    | with_reducible refine x_gnil ?_
    | with_reducible refine x_gcons ?_
    | with_reducible refine x_gtup rfl ?_
    | with_reducible refine x_gsub ?_
    | with_reducible refine x_it ?_
    | with_reducible refine x_range1 ?_
    | with_reducible refine x_enum ?_
    | with_reducible refine x_lc ?_
    | with_reducible refine x_dc ?_
    | with_reducible refine x_for ?_
    | with_reducible refine e_rev ?_
    | with_reducible refine x_arg1 ?_
    | with_reducible refine x_arg2 ?_
    | with_reducible refine x_arg3 ?_
    | with_reducible refine x_isB ?_
    | with_reducible refine x_isI ?_
    | with_reducible refine x_items ?_
    | with_reducible refine x_values ?_
    | with_reducible refine x_keys ?_
    | with_reducible refine x_listV ?_
    | with_reducible refine x_sumV ?_
    | with_reducible refine x_listItems ?_
    | with_reducible refine x_sortItems ?_
    | with_reducible refine x_zipL ?_
    | with_reducible refine x_lenSetI ?_
    | with_reducible refine x_sortSet ?_
    | with_reducible refine x_isI' ?_
    | with_reducible refine x_dpN ?_
    | with_reducible refine x_dpC ?_
    | with_reducible refine x_slice ?_
    | with_reducible refine x_noPart ?_
    | with_reducible refine x_part ?_
    | with_reducible refine x_listR2 ?_
    | with_reducible refine x_range2 ?_
    | ((with_reducible refine x_augI ?_); refine augK rfl ?_)
    | with_reducible refine x_ifT ?_
    | with_reducible refine x_ifF ?_
    | with_reducible refine x_ifNT ?_
    | with_reducible refine x_ifNF ?_)
section
theorem ifE_cut {tt : TTd} {te to : TD} {σ : Sd} {G : Gp} {q : QD} (P : D → Gp → Prop) (key : ∀ v G', P v G' → q v G') (h : (∀ v G', P v G' → q v G') → dIfE tt te to σ G q) : dIfE tt te to σ G q := h key
theorem parts_of {L : Sheet} : ∀ {ds xs : List D}, F2 (fun d v => ∃ i P, d = nD i ∧ M.IsLeast (M.gr L) i P ∧ v = sheetD P) ds xs → ∃ Ps : List Sheet, xs = Ps.map sheetD ∧ F2 (fun d P => ∃ i, d = nD i ∧ M.IsLeast (M.gr L) i P) ds Ps
  | _, _, .nil => ⟨[], rfl, .nil⟩
  | _, _, .cons ⟨i, P, h1, h2, h3⟩ t => by
    obtain ⟨Ps, e, f⟩ := parts_of t
    exact ⟨P :: Ps, by rw [h3, e]; rfl, .cons ⟨i, h1, h2⟩ f⟩
def SDlaw : SpD := fun ds G q => ∃ (s : Addr) (zs : List Int), ds = [.ref s] ∧ ListAt G s (zs.map D.int) ∧ ∀ G', q (.bl true) G'
set_option maxHeartbeats 8000000 in
theorem rdDlaw (ds : List D) (G : Gp) (q : QD) (h : SDlaw ds G q) : tlaw SDdeck SDsignature SDdisguised SDdrawnsheet SDleast SDfirstpaths Sfirstpaths SDsame SDrowat SDpick Spathtopart SDtags Spathtotag SDcounts { nx := fun _ G' => fin (q .non) G', rt := fun d G' => fin (q d) G' } (startD Nlaw ds) G := by
  obtain ⟨s, zs, rfl, hs, k⟩ := h
  unfold tlaw
  repeat infer_instance
  refine ⟨s, zs, rfl, hs, fun a c G1 ha hc s1 j1 => ?_⟩
  repeat infer_instance
  refine ⟨⟨by decide, by decide⟩, ?_⟩
  rw [show (5 : Int).toNat = 5 from rfl]
  refine ⟨fun i σ H => ∃ (x2 x3 x4 x5 x6 x7 x8 x9 x10 x11 x12 x13 x14 x15 x16 : Option D), σ = [some (.ref s), some (.ref a), x2, x3, x4, x5, x6, x7, x8, x9, x10, x11, x12, x13, x14, x15, x16] ∧ DkJ a c H, fin.of ⟨_, _, _, _, _, _, _, _, _, _, _, _, _, _, _, rfl, j1⟩, fun _ _ _ _ => trivial, fun i d σ H hd ⟨x2, x3, x4, x5, x6, x7, x8, x9, x10, x11, x12, x13, x14, x15, x16, hσ, jH⟩ => ?_, fun σ H ⟨x2, x3, x4, x5, x6, x7, x8, x9, x10, x11, x12, x13, x14, x15, x16, hσ, jH⟩ => ?_⟩
  · subst hσ
    obtain ⟨hi, rfl⟩ := rng_get hd
    repeat infer_instance
    refine ⟨a, c, rfl, jH, fun sg H1 s1 j1 hsg => ?_⟩
    repeat infer_instance
    refine ⟨a, c, sg, 8, rfl, j1, hsg, by decide, by decide, fun rows0 H2 s2 j2 g0 l0 => ?_⟩
    repeat infer_instance
    refine ⟨a, c, rows0, rfl, j2, g0, by omega, fun sh H3 s3 j3 gS l3 b3 => ?_⟩
    repeat infer_instance
    have shl : sh.length ≤ 9 := by omega
    refine ⟨sh, 0, rfl, gS, gS.pos, fun L H4 s4 hL => ?_⟩
    have gL := gS.least gS.pos hL
    have ll : L.length ≤ 9 := by
      have := hL.len_le gS.cl gS.pos (fun _ h => h)
      omega
    obtain ⟨txt, htxt⟩ := repr_run gS
    repeat infer_instance
    refine htxt _ _ ?_
    repeat infer_instance
    refine ⟨sz (by simp), ?_⟩
    repeat infer_instance
    refine ⟨L, rfl, gL, fun pd fd H5 hpd s5 epd hF hB => ?_⟩
    have j4 := j3.mono s4
    have j5 := j4.mono s5
    have npd : ¬ Dk a c pd := j4.ne hpd
    have short : ∀ x ∈ fd, x.2.length ≤ 60 := fun x hx => by
      have h1 := hB.short x hx
      have h2 := hB.len
      omega
    have fl := hB.len
    repeat infer_instance
    refine ⟨sh, rfl, gS, fun L1 fd1 H6 s6 hL1 hF1 hB1 => ?_⟩
    have : L1 = L := hL1.uniq hL (gS.cl.bis gS.pos)
    subst this
    have : fd1 = fd := hF1.uniq hF
    subst this
    repeat infer_instance
    refine ⟨a, c, sh, rfl, j5.mono s6, gS, by omega, fun sh2 H7 s7 j7 g7 l7 b7 => ?_⟩
    repeat infer_instance
    refine ⟨sh2, rfl, g7, fun L2 fd2 H8 s8 hL2 hF2 hB2 => ?_⟩
    have : L2 = L1 := hL2.uniq hL b7
    subst this
    have : fd2 = fd1 := hF2.uniq hF
    subst this
    repeat infer_instance
    refine ⟨sz (by simp), new_run fun p9 H9 hp9 s9 e9 _ => ?_⟩
    repeat infer_instance
    have epd9 := s9 _ _ id (s8 _ _ id (s7 _ _ npd (s6 _ _ id epd)))
    refine x_varF (lookF rfl epd9 ?_)
    repeat infer_instance
    refine x_varF (lookF rfl epd9 ?_)
    repeat infer_instance
    refine ⟨sz (by simp), new_run fun p10 H10 hp10 s10 e10 _ => ?_⟩
    repeat infer_instance
    have pz := paths_sz short
    refine ⟨(.ref p9, .ref p10), _, rfl, sm_two (d := pathsD fd2) (s10 _ _ id e9) e10 (paths_pu fd2), by omega, fun H11 s11 => ?_⟩
    repeat infer_instance
    have e9' := s11 _ _ id (s10 _ _ id e9)
    refine e_ixL (.inl e9') (v := pathsD fd2) rfl ?_
    refine i_tup ?_
    refine lc_ff Fr.no trivial fd2 fdD (fun _ => .int 1) (fun _ => false) rfl (fun _ _ => trivial) (szl (by omega)) (fun j x G' hx s _ => ⟨_, rfl, fun h hh => ?_⟩) (fun j x G' σ2 hx hb _ _ _ _ _ => by cases hb) fun p12 H12 hp12 s12 _ e12 => ?_
    · repeat infer_instance
      refine ⟨L2, x.2, x.1, rfl, gL, hB.lead x (List.mem_of_getElem? hx), fun G2 s2 => ?_⟩
      repeat infer_instance
      refine e_eqIs ?_
      exact hh G2 s2 trivial
    have e12' : H12 p12 = some (.lst []) := by
      rw [e12, List.filter_eq_nil_iff.mpr (by simp)]
      rfl
    repeat infer_instance
    refine ⟨Nat.zero_le _, new_run fun p13 H13 hp13 s13 e13 _ => ?_⟩
    refine e_neNil (s13 _ _ id e12') rfl (by decide) e13 ?_
    show isB _ (.bl false) _
    repeat infer_instance
    refine e_lenT ?_
    repeat infer_instance
    rw [List.length_map]
    refine ⟨⟨by show -(2 ^ 62) ≤ ((L2.length : Nat) : Int); omega, by show ((L2.length : Nat) : Int) < 2 ^ 62; omega⟩, ?_⟩
    rw [show (((L2.length : Nat) : Int)).toNat = L2.length from by omega]
    refine lc_map Fr.no trivial (fun d v => ∃ i P, d = nD i ∧ M.IsLeast (M.gr L2) i P ∧ v = sheetD P) (fun _ _ => trivial) (szl (by rw [List.length_map, List.length_range]; omega)) (fun j d G' hd s _ => ⟨_, rfl, fun h hh => ?_⟩) fun pp xs H14 hpp s14 _ epp fP => ?_
    · obtain ⟨hj, rfl⟩ := rng_get hd
      repeat infer_instance
      exact ⟨L2, j, rfl, gL, hj, fun P G2 s2 hP => hh _ G2 s2 trivial ⟨j, P, rfl, hP, rfl⟩⟩
    obtain ⟨Ps, rfl, fPs⟩ := parts_of fP
    have Pl : Ps.length = L2.length := by
      have := fPs.len
      rw [List.length_map, List.length_range] at this
      omega
    have Pat : ∀ (j : Nat) P, Ps[j]? = some P → M.IsLeast (M.gr L2) j P := fun j P hj => by
      obtain ⟨d, hd, j2, e, h⟩ := fPs.gev hj
      obtain ⟨_, rfl⟩ := rng_get hd
      have : j = j2 := nD_inj e
      subst this
      exact h
    have Pok : ∀ P ∈ Ps, PartOk P := fun P hP => by
      obtain ⟨j, hj⟩ := List.getElem?_of_mem hP
      have h1 := Pat j P hj
      have hjl : j < L2.length := by
        have := (List.getElem?_eq_some_iff.mp hj).1
        omega
      have h2 := h1.len_le gL.cl hjl (fun _ h => h)
      exact ⟨gL.least hjl h1, by omega, h1.self⟩
    have j8 := j7.mono s8
    have j14 := (((((j8.mono s9).mono s10).mono s11).mono s12).mono s13).mono s14
    have npp : ¬ Dk a c pp := (((((j8.mono s9).mono s10).mono s11).mono s12).mono s13).ne hpp
    have epd14 := s14 _ _ id (s13 _ _ id (s12 _ _ id (s11 _ _ id (s10 _ _ id epd9))))
    have Pne : Ps ≠ [] := by
      intro z
      rw [z] at Pl
      have := gL.pos
      simp at Pl
      omega
    repeat infer_instance
    refine ⟨a, c, pp, _, rfl, j14, npp, epp, by simpa using Pne, by rw [List.length_map]; omega, fun v1 H15 hv1 s15 j15 => ?_⟩
    repeat infer_instance
    refine ⟨a, c, pp, _, rfl, j15, npp, s15 _ _ npp epp, by simpa using Pne, by rw [List.length_map]; omega, fun v2 H16 hv2 s16 j16 => ?_⟩
    repeat infer_instance
    refine ⟨a, c, sg, 3, rfl, j16, hsg, by decide, by decide, fun rows3 H17 s17 j17 g17 l17 => ?_⟩
    repeat infer_instance
    refine ⟨rows3, 0, rfl, g17, g17.pos, fun P3 H18 s18 hP3 => ?_⟩
    have ok3 : PartOk P3 := ⟨g17.least g17.pos hP3, by
      have := hP3.len_le g17.cl g17.pos (fun _ h => h)
      omega, hP3.self⟩
    repeat infer_instance
    refine ⟨Nat.zero_le _, ?_⟩
    repeat infer_instance
    refine ⟨sz (by simp), ?_⟩
    repeat infer_instance
    refine ⟨sz (by simp), ?_⟩
    repeat infer_instance
    refine ⟨sz (by simp), new_run fun p4 H19 hp4 s19 e19 _ => ?_⟩
    have j18 := j17.mono s18
    have j19 := j18.mono s19
    have np4 : ¬ Dk a c p4 := j18.ne hp4
    have epp19 := s19 _ _ id (s18 _ _ id (s17 _ _ npp (s16 _ _ npp (s15 _ _ npp epp))))
    have epd19 := s19 _ _ id (s18 _ _ id (s17 _ _ npd (s16 _ _ npd (s15 _ _ npd epd14))))
    have all4 : ∀ d ∈ [v1, v2, sheetD P3, D.tup [D.tup [.str "void", D.tup []]]], ∃ P, d = sheetD P ∧ PartOk P := fun d hd => by
      simp only [List.mem_cons, List.not_mem_nil, or_false] at hd
      rcases hd with rfl | rfl | rfl | rfl
      · obtain ⟨P, hP, rfl⟩ := List.mem_map.mp hv1
        exact ⟨P, rfl, Pok P hP⟩
      · obtain ⟨P, hP, rfl⟩ := List.mem_map.mp hv2
        exact ⟨P, rfl, Pok P hP⟩
      · exact ⟨P3, rfl, ok3⟩
      · exact ⟨[("void", [])], rfl, void_part⟩
    refine i_lst e19 ?_
    refine ⟨fun z0 σ K => ∃ (x8 x9 x10 x12 x13 x14 x15 x16 : Option D), σ = [some (.ref s), some (.ref a), some (nD i), some (signD sg), some (sheetD sh), some (sheetD L2), some (.str txt), some (.ref pd), x8, x9, x10, some (.ref pp), x12, x13, x14, x15, x16] ∧ Sx (Dk a c) H19 K ∧ DkJ a c K, fin.of ⟨_, _, _, _, _, _, _, _, rfl, Sx.refl, j19⟩, fun i σ K ⟨_, _, _, _, _, _, _, _, _, sK, _⟩ => .inl (sK _ _ np4 e19), fun z d σ K hd ⟨x8, x9, x10, x12, x13, x14, x15, x16, hσ, sK, jK⟩ => ?_, fun σ K ⟨x8, x9, x10, x12, x13, x14, x15, x16, hσ, sK, jK⟩ => ?_⟩
    · subst hσ
      obtain ⟨P, rfl, okP⟩ := all4 d (List.mem_of_getElem? hd)
      repeat with_reducible refine x_gname ?_
      with_reducible refine x_seq ?_
      with_reducible refine x_asgN ?_
      have psl : Ps.length ≤ 9 := by omega
      have kPs : plBs (Ps.map sheetD) = true := plBs_all.mpr fun d hd => by
        obtain ⟨Q, hQ, rfl⟩ := List.mem_map.mp hd
        exact (Pok Q hQ).good.pl
      have dPs : deps (Ps.map sheetD) ≤ 3 := deps_le fun d hd => by
        obtain ⟨Q, _, rfl⟩ := List.mem_map.mp hd
        exact sheet_dep Q
      have eppK := sK _ _ npp epp19
      have epdK := sK _ _ npd epd19
      with_reducible refine ifE_cut (fun v K' => Told L2 fd2 P v ∧ Sx (Dk a c) H19 K' ∧ DkJ a c K') (fun v0 K1 ⟨hv0, sK1, jK1⟩ => ?_) (fun key => ?_)
      · obtain ⟨pu0, sz0⟩ := hv0.pu short
        repeat infer_instance
        refine ⟨sh, P, rfl, gS, by omega, okP.good, fun La fda Pw v K2 t2 hLa hFa hBa hPw hv => ?_⟩
        have : La = L2 := hLa.uniq hL (gS.cl.bis gS.pos)
        subst this
        have : fda = fd2 := hFa.uniq hF
        subst this
        have : Pw = P := hPw.uniq okP.least (okP.good.cl.bis okP.good.pos)
        subst this
        have : v = v0 := Told.uniq hL.sep hB hv hv0
        subst this
        repeat infer_instance
        refine ⟨a, c, Pw, rfl, jK1.mono t2, okP.good, by have := okP.le; omega, fun P2 K3 t3 jK3 gP2 lP2 bP2 => ?_⟩
        repeat infer_instance
        refine ⟨sh, P2, rfl, gS, by omega, gP2, fun Lb fdb Pw2 v' K4 t4 hLb hFb hBb hPw2 hv' => ?_⟩
        have : Lb = La := hLb.uniq hL (gS.cl.bis gS.pos)
        subst this
        have : fdb = fda := hFb.uniq hF
        subst this
        have : Pw2 = Pw := hPw2.uniq okP.least bP2
        subst this
        have : v' = v := Told.uniq hL.sep hB hv' hv0
        subst this
        repeat infer_instance
        refine ⟨sz (by simp), new_run fun p5 K5 hp5 t5 e5 _ => ?_⟩
        repeat infer_instance
        refine ⟨sz (by simp), new_run fun p6 K6 hp6 t6 e6 _ => ?_⟩
        repeat infer_instance
        refine ⟨(.ref p5, .ref p6), _, rfl, sm_two (t6 _ _ id e5) e6 pu0, by omega, fun K7 t7 => ?_⟩
        repeat infer_instance
        exact fin.of ⟨_, _, _, _, _, _, _, _, rfl, (((((sK1.trans t2.of).trans t3).trans t4.of).trans t5.of).trans t6.of).trans t7.of, (((jK3.mono t4).mono t5).mono t6).mono t7⟩
      · repeat infer_instance
        refine e_inL eppK kPs (by omega) okP.good.pl (Nat.le_trans (sheet_dep P) (by decide)) fun b hb => ?_
        cases b with
        | true =>
          show isB _ (.bl true) _
          repeat infer_instance
          have hPin : P ∈ Ps := by
            obtain ⟨Q, hQ, e⟩ := List.mem_map.mp (hb.mp rfl)
            rw [← sheetD_inj e]
            exact hQ
          obtain ⟨i0, hi0⟩ := List.getElem?_of_mem hPin
          have li0 := Pat i0 P hi0
          have i0l : i0 < L2.length := by
            have := (List.getElem?_eq_some_iff.mp hi0).1
            omega
          obtain ⟨x, hx, ex⟩ := List.mem_map.mp (hF.full hL i0l)
          refine e_dictF (kvs := kd nD pathD fd2) (by rw [epdK]; unfold kd; rw [List.map_map]; rfl) (kd_nat _) (new_run fun p5 K5 hp5 t5 e5 _ => ?_)
          repeat infer_instance
          have eppK5 := t5 _ _ id eppK
          refine ⟨t_lst (.inl eppK5), ?_⟩
          repeat infer_instance
          refine e_indexL (i := i0) eppK5 kPs (by omega) okP.good.pl (Nat.le_trans (sheet_dep P) (by decide)) (by rw [List.getElem?_map, hi0]; rfl) (fun j hj e => ?_) ?_
          · rw [List.getElem?_map] at e
            obtain ⟨Q, hQ, e2⟩ := Option.map_eq_some_iff.mp e
            have := sheetD_inj e2
            subst this
            have lj := Pat j Q hQ
            have := hL.sep j i0 (by omega) i0l (lj.bis.trans li0.bis.symm)
            omega
          · rw [dputs_kd key_nat, aputs_nodup hB.nd] at e5
            refine e_ixD (.inl e5) (kd_fits key_nat _ i0) (v := pathD x.2) ?_ (key _ K5 ⟨.inl ⟨x, hx, by rw [ex]; exact li0, rfl⟩, sK.trans t5.of, jK.mono t5⟩)
            rw [kd_get key_nat, ← ex, aget_of hB.nd hx]
            rfl
        | false =>
          show isB _ (.bl false) _
          repeat infer_instance
          refine key _ K ⟨.inr ⟨fun x hx hl => ?_, rfl⟩, sK, jK⟩
          have hxl := hB.lt x hx
          have hxP : x.1 < Ps.length := by omega
          have h1 := Pat x.1 _ (List.getElem?_eq_getElem hxP)
          have : P = Ps[x.1] := hl.uniq h1 (gL.cl.bis hxl)
          have hin : sheetD P ∈ Ps.map sheetD := List.mem_map.mpr ⟨P, by rw [this]; exact List.getElem_mem hxP, rfl⟩
          exact Bool.false_ne_true (hb.mpr hin)
    · subst hσ
      have epdK := sK _ _ npd epd19
      repeat infer_instance
      refine ⟨sg, rfl, hsg, fun pt ts K1 hpt t1 e1 hperm => ?_⟩
      have tsl : ts.length ≤ 21 := by
        have h1 := hperm.length_eq
        have h2 := hsg.le
        rw [List.length_append] at h1
        have h3 : voidS.length = 1 := rfl
        omega
      refine i_lst e1 ?_
      refine lc_fn Fr.no trivial ts sgD (fun x => .str x.1) rfl (fun G' s => .inl (s _ _ id e1)) (szl (by omega)) (fun j x G' hx s _ => ⟨_, rfl, fun h hh => ?_⟩) fun p2 K2 hp2 t2 _ e2 => ?_
      · repeat infer_instance
        exact hh G' Sx.refl trivial
      repeat infer_instance
      refine ⟨sz (by simp), new_run fun p3 K3 hp3 t3 e3 _ => ?_⟩
      refine e_addL (t3 _ _ id e2) e3 (sz (by simp; omega)) (new_run fun p4' K4 hp4' t4 e4 _ => ?_)
      have jK4 := (((jK.mono t1).mono t2).mono t3).mono t4
      have np4' : ¬ Dk a c p4' := (((jK.mono t1).mono t2).mono t3).ne hp4'
      have sK4 : Sx (Dk a c) H19 K4 := (((sK.trans t1.of).trans t2.of).trans t3.of).trans t4.of
      refine i_lst e4 ?_
      refine ⟨fun z0 σ K => ∃ (x8 x9 x10 x12 x13 x14 x15 x16 : Option D), σ = [some (.ref s), some (.ref a), some (nD i), some (signD sg), some (sheetD sh), some (sheetD L2), some (.str txt), some (.ref pd), x8, x9, x10, some (.ref pp), x12, x13, x14, x15, x16] ∧ Sx (Dk a c) K4 K ∧ DkJ a c K, fin.of ⟨_, _, _, _, _, _, _, _, rfl, Sx.refl, jK4⟩, fun i σ K ⟨_, _, _, _, _, _, _, _, _, sK, _⟩ => .inl (sK _ _ np4' e4), fun z d σ K hd ⟨x8, x9, x10, x12, x13, x14, x15, x16, hσ, sK5, jK5⟩ => ?_, fun σ K ⟨x8, x9, x10, x12, x13, x14, x15, x16, hσ, sK5, jK5⟩ => ?_⟩
      · subst hσ
        obtain ⟨t, rfl⟩ : ∃ t : Str, d = .str t := by
          rcases List.mem_append.mp (List.mem_of_getElem? hd) with h | h
          · obtain ⟨x, _, rfl⟩ := List.mem_map.mp h
            exact ⟨x.1, rfl⟩
          · have : d = .str "qqqqqqqq" := by simpa using h
            exact ⟨_, this⟩
        have epd5 := (sK4.trans sK5) _ _ npd epd19
        repeat infer_instance
        refine x_varF (lookF rfl epd5 ?_)
        refine i_tup ?_
        refine lc_ff Fr.no trivial fd2 fdD (fun x => pathD x.2) (fun x => decide (tgs (M.gr L2) x.1 = t)) rfl (fun _ _ => trivial) (szl (by omega)) (fun j x G' hx s _ => ⟨_, rfl, fun h hh => ?_⟩) (fun j x G' σ2 hx hb s _ hp h hh => ?_) fun p6 K6 hp6 t6 _ e6 => ?_
        · have hxl := hB.lt x (List.mem_of_getElem? hx)
          obtain ⟨tt, fs, ex, _⟩ := gL.row hxl
          have et : tgs (M.gr L2) x.1 = tt := tgs_of ex
          repeat infer_instance
          refine sheet_ix ex ?_
          repeat infer_instance
          refine row_tag ?_
          repeat infer_instance
          refine e_eqStr ?_
          have h9 := hh G' Sx.refl trivial
          rw [et] at h9
          show isB _ (.bl (xor false (decide (tt = t)))) _
          rw [Bool.false_xor]
          exact h9
        · cases hp
          repeat infer_instance
          exact hh G' Sx.refl trivial
        repeat infer_instance
        refine ⟨sz (by simp), new_run fun p7 K7 hp7 t7 e7 _ => ?_⟩
        have ffl := List.length_filter_le (fun x : Nat × List Nat => decide (tgs (M.gr L2) x.1 = t)) fd2
        refine e_addL (t7 _ _ id e6) e7 (sz (by simp only [List.length_map, List.length_singleton]; omega)) (new_run fun p8 K8 hp8 t8 e8 _ => ?_)
        repeat infer_instance
        obtain ⟨w0, hw⟩ : ∃ w : D, headD (fd2.find? (fun x => decide (tgs (M.gr L2) x.1 = t))) = w := ⟨_, rfl⟩
        have hval : puB w0 = true ∧ dsz w0 ≤ 100 := by
          rw [← hw]
          cases e : fd2.find? (fun x => decide (tgs (M.gr L2) x.1 = t)) with
          | none => exact ⟨rfl, by decide⟩
          | some x =>
            have h1 := short x (List.mem_of_find?_eq_some e)
            refine ⟨?_, ?_⟩
            · show puB (pathD x.2) = true
              unfold pathD
              rw [puB]
              refine puBs_all.mpr fun d hd => ?_
              obtain ⟨n, _, rfl⟩ := List.mem_map.mp hd
              rfl
            · show dsz (pathD x.2) ≤ 100
              rw [path_sz]
              omega
        refine e_ixL (.inl e8) (v := w0) (by rw [← hw]; exact atI_nat (i := 0) find_headP) ?_
        repeat infer_instance
        refine ⟨sh, t, rfl, gS, fun La fda v K9 t9 hLa hFa hBa hv => ?_⟩
        have : La = L2 := hLa.uniq hL (gS.cl.bis gS.pos)
        subst this
        have : fda = fd2 := hFa.uniq hF
        subst this
        have : v = w0 := by rw [hv, ← hw]; cases fda.find? (fun x => decide (tgs (M.gr La) x.1 = t)) <;> rfl
        subst this
        repeat infer_instance
        refine ⟨sh, t, rfl, gS, fun Lb fdb v' K10 t10 hLb hFb hBb hv' => ?_⟩
        have : Lb = La := hLb.uniq hL (gS.cl.bis gS.pos)
        subst this
        have : fdb = fda := hFb.uniq hF
        subst this
        have : v' = v := by rw [hv', ← hw]; cases fdb.find? (fun x => decide (tgs (M.gr Lb) x.1 = t)) <;> rfl
        subst this
        repeat infer_instance
        refine ⟨sz (by simp), new_run fun p11 K11 hp11 t11 e11 _ => ?_⟩
        repeat infer_instance
        refine ⟨sz (by simp), new_run fun p12' K12 hp12' t12 e12 _ => ?_⟩
        repeat infer_instance
        refine ⟨(.ref p11, .ref p12'), _, rfl, sm_two (t12 _ _ id e11) e12 hval.1, by omega, fun K13 t13 => ?_⟩
        repeat infer_instance
        have tA : Sx no K K13 := ((((((t6.trans t7).trans t8).trans t9).trans t10).trans t11).trans t12).trans t13
        exact fin.of ⟨_, _, _, _, _, _, _, _, rfl, sK5.trans tA.of, jK5.mono tA⟩
      · subst hσ
        repeat infer_instance
        refine ⟨a, c, L2, sh, rfl, jK5, gL, gS, hL, fun K6 t6 jK6 => ?_⟩
        repeat infer_instance
        refine htxt _ _ ?_
        repeat infer_instance
        refine e_eqSs ?_
        repeat infer_instance
        exact fin.of ⟨_, _, _, _, _, _, _, _, _, _, _, _, _, _, _, rfl, jK6⟩
  · subst hσ
    repeat infer_instance
    exact fin.of (k H)
end
end DL.K81
/-! H2: the defs by names; each keeps its promise; the law. Printed by genh.py. -/
namespace DL.K81
open PySem PySem.Spec PyProof.Rows L2 DL
section
def ddreached : He.DefD := ⟨("reached", none), "reached", "reached", defArgs (top 1), defBody (top 1), defScope (top 1), [], []⟩
def ddnumbered : He.DefD := ⟨("numbered", none), "numbered", "numbered", defArgs (top 2), defBody (top 2), defScope (top 2), [], []⟩
def ddclassesof : He.DefD := ⟨("classes_of", none), "classes_of", "classes_of", defArgs (top 3), defBody (top 3), defScope (top 3), [], []⟩
def ddrenumbered : He.DefD := ⟨("renumbered", none), "renumbered", "renumbered", defArgs (top 4), defBody (top 4), defScope (top 4), [], []⟩
def ddreduced : He.DefD := ⟨("reduced", none), "reduced", "reduced", defArgs (top 5), defBody (top 5), defScope (top 5), [], []⟩
def ddleastsheet : He.DefD := ⟨("least_sheet", none), "least_sheet", "least_sheet", defArgs (top 7), defBody (top 7), defScope (top 7), [], []⟩
def ddfirstpaths : He.DefD := ⟨("first_paths", none), "first_paths", "first_paths", defArgs (top 9), defBody (top 9), defScope (top 9), [], []⟩
def ddpathtopart : He.DefD := ⟨("path_to_part", none), "path_to_part", "path_to_part", defArgs (top 10), defBody (top 10), defScope (top 10), [], []⟩
def ddrooted : He.DefD := ⟨("rooted", none), "rooted", "rooted", defArgs (top 11), defBody (top 11), defScope (top 11), [], []⟩
def ddpathtotag : He.DefD := ⟨("path_to_tag", none), "path_to_tag", "path_to_tag", defArgs (top 12), defBody (top 12), defScope (top 12), [], []⟩
def ddlevelcounts : He.DefD := ⟨("level_counts", none), "level_counts", "level_counts", defArgs (top 13), defBody (top 13), defScope (top 13), [], []⟩
def ddtagcounts : He.DefD := ⟨("tag_counts", none), "tag_counts", "tag_counts", defArgs (top 14), defBody (top 14), defScope (top 14), [], []⟩
def ddLdeck : He.DefD := ⟨("_law_deck", none), "_law_deck", "_law_deck", defArgs (top 16), defBody (top 16), defScope (top 16), [], []⟩
def ddLdraw : He.DefD := ⟨("_law_draw", none), "_law_draw", "_law_draw", defArgs (top 17), defBody (top 17), defScope (top 17), [], []⟩
def ddLpick : He.DefD := ⟨("_law_pick", none), "_law_pick", "_law_pick", defArgs (top 18), defBody (top 18), defScope (top 18), [], []⟩
def ddLsome : He.DefD := ⟨("_law_some", none), "_law_some", "_law_some", defArgs (top 19), defBody (top 19), defScope (top 19), [], []⟩
def ddLsame : He.DefD := ⟨("_law_same", none), "_law_same", "_law_same", defArgs (top 20), defBody (top 20), defScope (top 20), [], []⟩
def ddLsignature : He.DefD := ⟨("_law_signature", none), "_law_signature", "_law_signature", defArgs (top 21), defBody (top 21), defScope (top 21), [], []⟩
def ddLtags : He.DefD := ⟨("_law_tags", none), "_law_tags", "_law_tags", defArgs (top 22), defBody (top 22), defScope (top 22), [], []⟩
def ddLdrawnsheet : He.DefD := ⟨("_law_drawn_sheet", none), "_law_drawn_sheet", "_law_drawn_sheet", defArgs (top 23), defBody (top 23), defScope (top 23), [], []⟩
def ddLfields : He.DefD := ⟨("_law_fields", none), "_law_fields", "_law_fields", defArgs (top 24), defBody (top 24), defScope (top 24), [], []⟩
def ddLlabel : He.DefD := ⟨("_law_label", none), "_law_label", "_law_label", defArgs (top 25), defBody (top 25), defScope (top 25), [], []⟩
def ddLclasses : He.DefD := ⟨("_law_classes", none), "_law_classes", "_law_classes", defArgs (top 26), defBody (top 26), defScope (top 26), [], []⟩
def ddLleast : He.DefD := ⟨("_law_least", none), "_law_least", "_law_least", defArgs (top 27), defBody (top 27), defScope (top 27), [.int 0], []⟩
def ddLdisguised : He.DefD := ⟨("_law_disguised", none), "_law_disguised", "_law_disguised", defArgs (top 28), defBody (top 28), defScope (top 28), [], []⟩
def ddLfirstpaths : He.DefD := ⟨("_law_first_paths", none), "_law_first_paths", "_law_first_paths", defArgs (top 29), defBody (top 29), defScope (top 29), [], []⟩
def ddLlevels : He.DefD := ⟨("_law_levels", none), "_law_levels", "_law_levels", defArgs (top 30), defBody (top 30), defScope (top 30), [], []⟩
def ddLarecountsright : He.DefD := ⟨("_law_are_counts_right", none), "_law_are_counts_right", "_law_are_counts_right", defArgs (top 31), defBody (top 31), defScope (top 31), [], []⟩
def ddLrowat : He.DefD := ⟨("_law_row_at", none), "_law_row_at", "_law_row_at", defArgs (top 32), defBody (top 32), defScope (top 32), [], []⟩
def ddlaw : He.DefD := ⟨("law", none), "law", "law", defArgs (top 33), defBody (top 33), defScope (top 33), [], []⟩
def hfn : List He.DefD := [ddreached, ddnumbered, ddclassesof, ddrenumbered, ddreduced, ddleastsheet, ddfirstpaths, ddpathtopart, ddrooted, ddpathtotag, ddlevelcounts, ddtagcounts, ddLdeck, ddLdraw, ddLpick, ddLsome, ddLsame, ddLsignature, ddLtags, ddLdrawnsheet, ddLfields, ddLlabel, ddLclasses, ddLleast, ddLdisguised, ddLfirstpaths, ddLlevels, ddLarecountsright, ddLrowat, ddlaw]
def hfa : List He.Fa := [.glo "reached", .glo "numbered", .glo "classes_of", .glo "renumbered", .glo "reduced", .glo "least_sheet", .glo "first_paths", .glo "path_to_part", .glo "rooted", .glo "path_to_tag", .glo "level_counts", .glo "tag_counts", .glo "_law_deck", .glo "_law_draw", .glo "_law_pick", .glo "_law_some", .glo "_law_same", .glo "_law_signature", .glo "_law_tags", .glo "_law_drawn_sheet", .glo "_law_fields", .glo "_law_label", .glo "_law_classes", .glo "_law_least", .glo "_law_disguised", .glo "_law_first_paths", .glo "_law_levels", .glo "_law_are_counts_right", .glo "_law_row_at", .glo "law", .free "len", .free "list", .free "tuple", .free "int", .free "max", .free "min", .free "range", .free "enumerate", .free "isinstance", .free "sorted", .free "set", .free "sum", .free "dict", .free "zip", .free "repr", .free "bool", .free "str"]
abbrev hrow : PySem.W.OpenRow := PySem.W.OpenLaw.row PySem.Challenge.rw_roundties_k81_searched_values
def hobs (g : Addr → Option Obj) : Bool × He.AlD := (noLists (He.frG g (He.asD g 4)), He.obsD hfa hfn (He.frG g (He.asD g 4)))
def hook : PySem.W.Hook where
  α := Bool × He.AlD
  obs := fun s => hobs s.heap.get?
  val := fun _ => (true, He.valD hfn)
  says := fun _ h => ∃ K : PySem.W.Frag, K.In h ∧ He.SaysD hfa hfn K ∧ noLists K = true
  of := fun _ _ e => ⟨_, He.frG_in, (Prod.mk.inj e).2, (Prod.mk.inj e).1⟩
  keeps := fun _ _ _ ⟨K, hK, c, nl⟩ k => ⟨K, PySem.W.Frag.In.keeps hK k, c, nl⟩
def hob (s : PySem.W.SharedT) : Bool × He.AlD := hobs (HandSHeadRun.getT s)
theorem hob_eq (s : PySem.W.SharedT) : hob s = hook.obs s.abs := by
  have e : HandSHeadRun.getT s = s.abs.heap.get? := funext (HandSHeadRun.getT_eq s)
  show hobs _ = hobs _
  rw [e]
theorem promise {K : PySem.W.Frag} {P : Program} {w : World} {H : Hp} {a : Addr} {ns : List Int} (h : Rd H a (.lst (ns.map V.int))) : liftSp ⟨K, P, w⟩ SDlaw [.ref a] H (fun v _ => v = .bl true) fun _ _ _ => False := by
  refine ⟨[.ref a], fun b => if b = a then some (.rol (ns.map D.int)) else none, fun d _ => d = .bl true, RelDs.cons rfl RelDs.nil, fun b m e => ?_, ⟨a, ns, rfl, .inr (if_pos rfl), fun _ => rfl⟩, fun v H' d G' _ _ r e => ?_⟩
  · have e : (if b = a then some (MO.rol (ns.map D.int)) else none) = some m := e
    by_cases hb : b = a
    · subst hb
      rw [if_pos rfl] at e
      cases e
      refine ⟨_, h, ?_⟩
      have all : ∀ l : List Int, RelDs K H (l.map D.int) (l.map V.int) := fun l => by
        induction l with
        | nil => exact rfl
        | cons n l ih => exact RelDs.cons rfl ih
      exact all ns
    · rw [if_neg hb] at e
      cases e
  · subst e
    exact r
abbrev hloose : List Str := ["reached", "numbered", "classes_of", "renumbered", "reduced", "least_sheet", "first_paths", "path_to_part", "rooted", "path_to_tag", "level_counts", "tag_counts", "_law_deck", "_law_draw", "_law_pick", "_law_some", "_law_same", "_law_signature", "_law_tags", "_law_drawn_sheet", "_law_fields", "_law_label", "_law_classes", "_law_least", "_law_disguised", "_law_first_paths", "_law_levels", "_law_are_counts_right", "_law_row_at"]
theorem lenreached (ds : List D) (G : Gp) (q : QD) (h : Sreached ds G q) : ds.length = 2 := by
  obtain ⟨_, _, _, _, rfl, _⟩ := h
  rfl
theorem lennumbered (ds : List D) (G : Gp) (q : QD) (h : Snumbered ds G q) : ds.length = 1 := by
  obtain ⟨_, _, _, _, _, _, rfl, _⟩ := h
  rfl
theorem lenclassesof (ds : List D) (G : Gp) (q : QD) (h : Sclassesof ds G q) : ds.length = 2 := by
  obtain ⟨_, _, _, _, rfl, _⟩ := h
  rfl
theorem lenrenumbered (ds : List D) (G : Gp) (q : QD) (h : Srenumbered ds G q) : ds.length = 2 := by
  obtain ⟨_, _, _, _, _, rfl, _⟩ := h
  rfl
theorem lenreduced (ds : List D) (G : Gp) (q : QD) (h : Sreduced ds G q) : ds.length = 2 := by
  obtain ⟨_, _, _, _, _, rfl, _⟩ := h
  rfl
theorem lenleastsheet (ds : List D) (G : Gp) (q : QD) (h : Sleastsheet ds G q) : ds.length = 1 := by
  obtain ⟨_, rfl, _⟩ := h
  rfl
theorem lenfirstpaths (ds : List D) (G : Gp) (q : QD) (h : Sfirstpaths ds G q) : ds.length = 1 := by
  obtain ⟨_, rfl, _⟩ := h
  rfl
theorem lenrooted (ds : List D) (G : Gp) (q : QD) (h : Srooted ds G q) : ds.length = 2 := by
  obtain ⟨_, _, rfl, _⟩ := h
  rfl
theorem lenpathtopart (ds : List D) (G : Gp) (q : QD) (h : Spathtopart ds G q) : ds.length = 2 := by
  obtain ⟨_, _, rfl, _⟩ := h
  rfl
theorem lenpathtotag (ds : List D) (G : Gp) (q : QD) (h : Spathtotag ds G q) : ds.length = 2 := by
  obtain ⟨_, _, rfl, _⟩ := h
  rfl
theorem lenlevelcounts (ds : List D) (G : Gp) (q : QD) (h : Slevelcounts ds G q) : ds.length = 2 := by
  obtain ⟨_, _, rfl, _⟩ := h
  rfl
theorem lentagcounts (ds : List D) (G : Gp) (q : QD) (h : Stagcounts ds G q) : ds.length = 2 := by
  obtain ⟨_, _, rfl, _⟩ := h
  rfl
theorem lenLdeck (ds : List D) (G : Gp) (q : QD) (h : SDdeck ds G q) : ds.length = 1 := by
  obtain ⟨_, _, rfl, _⟩ := h
  rfl
theorem lenLdraw (ds : List D) (G : Gp) (q : QD) (h : SDdraw ds G q) : ds.length = 2 := by
  obtain ⟨_, _, _, rfl, _⟩ := h
  rfl
theorem lenLpick (ds : List D) (G : Gp) (q : QD) (h : SDpick ds G q) : ds.length = 2 := by
  obtain ⟨_, _, _, _, rfl, _⟩ := h
  rfl
theorem lenLsome (ds : List D) (G : Gp) (q : QD) (h : SDsome ds G q) : ds.length = 3 := by
  obtain ⟨_, _, _, _, _, rfl, _⟩ := h
  rfl
theorem lenLsame (ds : List D) (G : Gp) (q : QD) (h : SDsame ds G q) : ds.length = 2 := by
  obtain ⟨_, _, rfl, _⟩ := h
  rfl
theorem lenLsignature (ds : List D) (G : Gp) (q : QD) (h : SDsignature ds G q) : ds.length = 2 := by
  obtain ⟨_, _, rfl, _⟩ := h
  rfl
theorem lenLtags (ds : List D) (G : Gp) (q : QD) (h : SDtags ds G q) : ds.length = 1 := by
  obtain ⟨_, rfl, _⟩ := h
  rfl
theorem lenLdrawnsheet (ds : List D) (G : Gp) (q : QD) (h : SDdrawnsheet ds G q) : ds.length = 3 := by
  obtain ⟨_, _, _, _, rfl, _⟩ := h
  rfl
theorem lenLfields (ds : List D) (G : Gp) (q : QD) (h : SLfields ds G q) : ds.length = 1 := by
  obtain ⟨_, _, rfl, _⟩ := h
  rfl
theorem lenLlabel (ds : List D) (G : Gp) (q : QD) (h : SLlabel ds G q) : ds.length = 1 := by
  obtain ⟨_, _, rfl, _⟩ := h
  rfl
theorem lenLclasses (ds : List D) (G : Gp) (q : QD) (h : SDclasses ds G q) : ds.length = 1 := by
  obtain ⟨_, rfl, _⟩ := h
  rfl
theorem lenLleast (ds : List D) (G : Gp) (q : QD) (h : SDleast ds G q) : ds.length = 2 := by
  obtain ⟨_, _, rfl, _⟩ := h
  rfl
theorem lenLdisguised (ds : List D) (G : Gp) (q : QD) (h : SDdisguised ds G q) : ds.length = 2 := by
  obtain ⟨_, _, _, rfl, _⟩ := h
  rfl
theorem lenLfirstpaths (ds : List D) (G : Gp) (q : QD) (h : SDfirstpaths ds G q) : ds.length = 1 := by
  obtain ⟨_, rfl, _⟩ := h
  rfl
theorem lenLlevels (ds : List D) (G : Gp) (q : QD) (h : SDlevels ds G q) : ds.length = 2 := by
  obtain ⟨_, _, rfl, _⟩ := h
  rfl
theorem lenLarecountsright (ds : List D) (G : Gp) (q : QD) (h : SDcounts ds G q) : ds.length = 3 := by
  obtain ⟨_, _, _, _, rfl, _⟩ := h
  rfl
theorem lenLrowat (ds : List D) (G : Gp) (q : QD) (h : SDrowat ds G q) : ds.length = 2 := by
  obtain ⟨_, _, _, rfl, _⟩ := h
  rfl
theorem lenlaw (ds : List D) (G : Gp) (q : QD) (h : SDlaw ds G q) : ds.length = 1 := by
  obtain ⟨_, _, rfl, _⟩ := h
  rfl
theorem facts {P : Program} {w : World} {K : PySem.W.Frag} {h : Heap} {mg : Str → Option Value} {f : Addr} (X : K.In h) (Gn : h.Ns mainGlobals mg) (hfl : mg ("law" : Str) = some (.ref f)) (c : He.SaysD hfa hfn K) :
    ∃ fd : FuncData, (∀ (s : Shared) (v : Value), BindsTo s fd ⟨[v], []⟩ [("script", v)]) ∧ ∀ base : Heap, K.In base → base.Ns mainGlobals mg → FnC P w K mg base f fd ["script"] (liftSp ⟨K, P, w⟩ SDlaw) := by
  obtain ⟨fdreached, Freached⟩ := c.def_ 0 (d := ddreached) rfl
  have greached := He.glo_ok X Gn (c.fact 0 (f := .glo "reached") rfl)
  obtain ⟨fdnumbered, Fnumbered⟩ := c.def_ 1 (d := ddnumbered) rfl
  have gnumbered := He.glo_ok X Gn (c.fact 1 (f := .glo "numbered") rfl)
  obtain ⟨fdclassesof, Fclassesof⟩ := c.def_ 2 (d := ddclassesof) rfl
  have gclassesof := He.glo_ok X Gn (c.fact 2 (f := .glo "classes_of") rfl)
  obtain ⟨fdrenumbered, Frenumbered⟩ := c.def_ 3 (d := ddrenumbered) rfl
  have grenumbered := He.glo_ok X Gn (c.fact 3 (f := .glo "renumbered") rfl)
  obtain ⟨fdreduced, Freduced⟩ := c.def_ 4 (d := ddreduced) rfl
  have greduced := He.glo_ok X Gn (c.fact 4 (f := .glo "reduced") rfl)
  obtain ⟨fdleastsheet, Fleastsheet⟩ := c.def_ 5 (d := ddleastsheet) rfl
  have gleastsheet := He.glo_ok X Gn (c.fact 5 (f := .glo "least_sheet") rfl)
  obtain ⟨fdfirstpaths, Ffirstpaths⟩ := c.def_ 6 (d := ddfirstpaths) rfl
  have gfirstpaths := He.glo_ok X Gn (c.fact 6 (f := .glo "first_paths") rfl)
  obtain ⟨fdpathtopart, Fpathtopart⟩ := c.def_ 7 (d := ddpathtopart) rfl
  have gpathtopart := He.glo_ok X Gn (c.fact 7 (f := .glo "path_to_part") rfl)
  obtain ⟨fdrooted, Frooted⟩ := c.def_ 8 (d := ddrooted) rfl
  have grooted := He.glo_ok X Gn (c.fact 8 (f := .glo "rooted") rfl)
  obtain ⟨fdpathtotag, Fpathtotag⟩ := c.def_ 9 (d := ddpathtotag) rfl
  have gpathtotag := He.glo_ok X Gn (c.fact 9 (f := .glo "path_to_tag") rfl)
  obtain ⟨fdlevelcounts, Flevelcounts⟩ := c.def_ 10 (d := ddlevelcounts) rfl
  have glevelcounts := He.glo_ok X Gn (c.fact 10 (f := .glo "level_counts") rfl)
  obtain ⟨fdtagcounts, Ftagcounts⟩ := c.def_ 11 (d := ddtagcounts) rfl
  have gtagcounts := He.glo_ok X Gn (c.fact 11 (f := .glo "tag_counts") rfl)
  obtain ⟨fdLdeck, FLdeck⟩ := c.def_ 12 (d := ddLdeck) rfl
  have gLdeck := He.glo_ok X Gn (c.fact 12 (f := .glo "_law_deck") rfl)
  obtain ⟨fdLdraw, FLdraw⟩ := c.def_ 13 (d := ddLdraw) rfl
  have gLdraw := He.glo_ok X Gn (c.fact 13 (f := .glo "_law_draw") rfl)
  obtain ⟨fdLpick, FLpick⟩ := c.def_ 14 (d := ddLpick) rfl
  have gLpick := He.glo_ok X Gn (c.fact 14 (f := .glo "_law_pick") rfl)
  obtain ⟨fdLsome, FLsome⟩ := c.def_ 15 (d := ddLsome) rfl
  have gLsome := He.glo_ok X Gn (c.fact 15 (f := .glo "_law_some") rfl)
  obtain ⟨fdLsame, FLsame⟩ := c.def_ 16 (d := ddLsame) rfl
  have gLsame := He.glo_ok X Gn (c.fact 16 (f := .glo "_law_same") rfl)
  obtain ⟨fdLsignature, FLsignature⟩ := c.def_ 17 (d := ddLsignature) rfl
  have gLsignature := He.glo_ok X Gn (c.fact 17 (f := .glo "_law_signature") rfl)
  obtain ⟨fdLtags, FLtags⟩ := c.def_ 18 (d := ddLtags) rfl
  have gLtags := He.glo_ok X Gn (c.fact 18 (f := .glo "_law_tags") rfl)
  obtain ⟨fdLdrawnsheet, FLdrawnsheet⟩ := c.def_ 19 (d := ddLdrawnsheet) rfl
  have gLdrawnsheet := He.glo_ok X Gn (c.fact 19 (f := .glo "_law_drawn_sheet") rfl)
  obtain ⟨fdLfields, FLfields⟩ := c.def_ 20 (d := ddLfields) rfl
  have gLfields := He.glo_ok X Gn (c.fact 20 (f := .glo "_law_fields") rfl)
  obtain ⟨fdLlabel, FLlabel⟩ := c.def_ 21 (d := ddLlabel) rfl
  have gLlabel := He.glo_ok X Gn (c.fact 21 (f := .glo "_law_label") rfl)
  obtain ⟨fdLclasses, FLclasses⟩ := c.def_ 22 (d := ddLclasses) rfl
  have gLclasses := He.glo_ok X Gn (c.fact 22 (f := .glo "_law_classes") rfl)
  obtain ⟨fdLleast, FLleast⟩ := c.def_ 23 (d := ddLleast) rfl
  have gLleast := He.glo_ok X Gn (c.fact 23 (f := .glo "_law_least") rfl)
  obtain ⟨fdLdisguised, FLdisguised⟩ := c.def_ 24 (d := ddLdisguised) rfl
  have gLdisguised := He.glo_ok X Gn (c.fact 24 (f := .glo "_law_disguised") rfl)
  obtain ⟨fdLfirstpaths, FLfirstpaths⟩ := c.def_ 25 (d := ddLfirstpaths) rfl
  have gLfirstpaths := He.glo_ok X Gn (c.fact 25 (f := .glo "_law_first_paths") rfl)
  obtain ⟨fdLlevels, FLlevels⟩ := c.def_ 26 (d := ddLlevels) rfl
  have gLlevels := He.glo_ok X Gn (c.fact 26 (f := .glo "_law_levels") rfl)
  obtain ⟨fdLarecountsright, FLarecountsright⟩ := c.def_ 27 (d := ddLarecountsright) rfl
  have gLarecountsright := He.glo_ok X Gn (c.fact 27 (f := .glo "_law_are_counts_right") rfl)
  obtain ⟨fdLrowat, FLrowat⟩ := c.def_ 28 (d := ddLrowat) rfl
  have gLrowat := He.glo_ok X Gn (c.fact 28 (f := .glo "_law_row_at") rfl)
  obtain ⟨fdlaw, Flaw⟩ := c.def_ 29 (d := ddlaw) rfl
  have gs : Gs mg := ⟨He.free_ok X Gn (c.fact 30 (f := .free "len") rfl), He.free_ok X Gn (c.fact 31 (f := .free "list") rfl), He.free_ok X Gn (c.fact 32 (f := .free "tuple") rfl), He.free_ok X Gn (c.fact 33 (f := .free "int") rfl), He.free_ok X Gn (c.fact 34 (f := .free "max") rfl), He.free_ok X Gn (c.fact 35 (f := .free "min") rfl), He.free_ok X Gn (c.fact 36 (f := .free "range") rfl), He.free_ok X Gn (c.fact 37 (f := .free "enumerate") rfl), He.free_ok X Gn (c.fact 38 (f := .free "isinstance") rfl), He.free_ok X Gn (c.fact 39 (f := .free "sorted") rfl), He.free_ok X Gn (c.fact 40 (f := .free "set") rfl), He.free_ok X Gn (c.fact 41 (f := .free "sum") rfl), He.free_ok X Gn (c.fact 42 (f := .free "dict") rfl), He.free_ok X Gn (c.fact 43 (f := .free "zip") rfl), He.free_ok X Gn (c.fact 44 (f := .free "repr") rfl), He.free_ok X Gn (c.fact 45 (f := .free "bool") rfl), He.free_ok X Gn (c.fact 46 (f := .free "str") rfl)⟩
  have el := hfl.symm.trans (He.glo_ok X Gn (c.fact 29 (f := .glo "law") rfl))
  cases el
  have bl := FunD.bindsA (ps := ["script"]) Flaw fun _ _ _ _ _ _ us hl => match us, hl with | [_], _ => rfl
  refine ⟨fdlaw, fun s v => bl s [v] rfl, fun base _ _ => ?_⟩
  have Oreached : FnOk P w K mg base CX0 1 _ fdreached ["rows", "root"] (liftSp ⟨K, P, w⟩ Sreached) := okreached gs Freached  lenreached rdreached
  have Onumbered : FnOk P w K mg base CX0 1 _ fdnumbered ["keys"] (liftSp ⟨K, P, w⟩ Snumbered) := oknumbered gs Fnumbered  lennumbered rdnumbered
  have Orenumbered : FnOk P w K mg base CX0 2 _ fdrenumbered ["rows", "root"] (liftSp ⟨K, P, w⟩ Srenumbered) := okrenumbered gs Frenumbered Freached Oreached greached lenrenumbered rdrenumbered
  have Oclassesof : FnOk P w K mg base CX0 2 _ fdclassesof ["rows", "used"] (liftSp ⟨K, P, w⟩ Sclassesof) := okclassesof gs Fclassesof Fnumbered Onumbered gnumbered lenclassesof rdclassesof
  have Oreduced : FnOk P w K mg base CX0 3 _ fdreduced ["rows", "root"] (liftSp ⟨K, P, w⟩ Sreduced) := okreduced gs Freduced Freached Oreached greached Fclassesof Oclassesof gclassesof Frenumbered Orenumbered grenumbered lenreduced rdreduced
  have Oleastsheet : FnOk P w K mg base CX0 4 _ fdleastsheet ["sheet"] (liftSp ⟨K, P, w⟩ Sleastsheet) := okleastsheet gs Fleastsheet Freduced Oreduced greduced lenleastsheet rdleastsheet
  have Ofirstpaths : FnOk P w K mg base CX0 5 _ fdfirstpaths ["sheet"] (liftSp ⟨K, P, w⟩ Sfirstpaths) := okfirstpaths gs Ffirstpaths Fleastsheet Oleastsheet gleastsheet lenfirstpaths rdfirstpaths
  have Orooted : FnOk P w K mg base CX0 1 _ fdrooted ["rows", "row"] (liftSp ⟨K, P, w⟩ Srooted) := okrooted gs Frooted  lenrooted rdrooted
  have Opathtopart : FnOk P w K mg base CX0 6 _ fdpathtopart ["sheet", "part"] (liftSp ⟨K, P, w⟩ Spathtopart) := okpathtopart gs Fpathtopart Fleastsheet Oleastsheet gleastsheet Ffirstpaths Ofirstpaths gfirstpaths Frooted Orooted grooted lenpathtopart rdpathtopart
  have Opathtotag : FnOk P w K mg base CX0 6 _ fdpathtotag ["sheet", "tag"] (liftSp ⟨K, P, w⟩ Spathtotag) := okpathtotag gs Fpathtotag Fleastsheet Oleastsheet gleastsheet Ffirstpaths Ofirstpaths gfirstpaths lenpathtotag rdpathtotag
  have Olevelcounts : FnOk P w K mg base CX0 5 _ fdlevelcounts ["sheet", "depth"] (liftSp ⟨K, P, w⟩ Slevelcounts) := oklevelcounts gs Flevelcounts Fleastsheet Oleastsheet gleastsheet lenlevelcounts rdlevelcounts
  have Otagcounts : FnOk P w K mg base CX0 5 _ fdtagcounts ["sheet", "depth"] (liftSp ⟨K, P, w⟩ Stagcounts) := oktagcounts gs Ftagcounts Fleastsheet Oleastsheet gleastsheet lentagcounts rdtagcounts
  have OLdeck : FnOk P w K mg base CX0 1 _ fdLdeck ["script"] (liftSp ⟨K, P, w⟩ SDdeck) := okLdeck gs FLdeck  lenLdeck rdDdeck
  have OLdraw : FnOk P w K mg base CX0 1 _ fdLdraw ["deck", "many"] (liftSp ⟨K, P, w⟩ SDdraw) := okLdraw gs FLdraw  lenLdraw rdDdraw
  have OLpick : FnOk P w K mg base CX0 2 _ fdLpick ["deck", "some"] (liftSp ⟨K, P, w⟩ SDpick) := okLpick gs FLpick FLdraw OLdraw gLdraw lenLpick rdDpick
  have OLsome : FnOk P w K mg base CX0 2 _ fdLsome ["deck", "row", "many"] (liftSp ⟨K, P, w⟩ SDsome) := okLsome gs FLsome FLdraw OLdraw gLdraw lenLsome rdDsome
  have OLsame : FnOk P w K mg base CX0 1 _ fdLsame ["told", "due"] (liftSp ⟨K, P, w⟩ SDsame) := okLsame gs FLsame  lenLsame rdDsame
  have OLsignature : FnOk P w K mg base CX0 3 _ fdLsignature ["deck", "most"] (liftSp ⟨K, P, w⟩ SDsignature) := okLsignature gs FLsignature FLdraw OLdraw gLdraw FLsome OLsome gLsome FLpick OLpick gLpick lenLsignature rdDsignature
  have OLtags : FnOk P w K mg base CX0 1 _ fdLtags ["sign"] (liftSp ⟨K, P, w⟩ SDtags) := okLtags gs FLtags  lenLtags rdDtags
  have OLdrawnsheet : FnOk P w K mg base CX0 3 _ fdLdrawnsheet ["deck", "sign", "most"] (liftSp ⟨K, P, w⟩ SDdrawnsheet) := okLdrawnsheet gs FLdrawnsheet FLdraw OLdraw gLdraw FLpick OLpick gLpick FLtags OLtags gLtags lenLdrawnsheet rdDdrawnsheet
  have OLfields : FnOk P w K mg base CX0 1 _ fdLfields ["row"] (liftSp ⟨K, P, w⟩ SLfields) := okLfields gs FLfields  lenLfields rdLfields
  have OLlabel : FnOk P w K mg base CX0 1 _ fdLlabel ["row"] (liftSp ⟨K, P, w⟩ SLlabel) := okLlabel gs FLlabel  lenLlabel rdLlabel
  have OLclasses : FnOk P w K mg base CX0 2 _ fdLclasses ["rows"] (liftSp ⟨K, P, w⟩ SDclasses) := okLclasses gs FLclasses FLlabel OLlabel gLlabel FLfields OLfields gLfields lenLclasses rdDclasses
  have OLleast : FnOk P w K mg base CX0 3 _ fdLleast ["rows", "root"] (liftSp ⟨K, P, w⟩ SDleast) := okLleast gs FLleast FLclasses OLclasses gLclasses FLfields OLfields gLfields lenLleast rdDleast
  have OLdisguised : FnOk P w K mg base CX0 3 _ fdLdisguised ["deck", "rows"] (liftSp ⟨K, P, w⟩ SDdisguised) := okLdisguised gs FLdisguised FLdraw OLdraw gLdraw FLsome OLsome gLsome lenLdisguised rdDdisguised
  have OLfirstpaths : FnOk P w K mg base CX0 1 _ fdLfirstpaths ["rows"] (liftSp ⟨K, P, w⟩ SDfirstpaths) := okLfirstpaths gs FLfirstpaths  lenLfirstpaths rdDfirstpaths
  have OLlevels : FnOk P w K mg base CX0 1 _ fdLlevels ["rows", "depth"] (liftSp ⟨K, P, w⟩ SDlevels) := okLlevels gs FLlevels  lenLlevels rdDlevels
  have OLarecountsright : FnOk P w K mg base CX0 6 _ fdLarecountsright ["deck", "rows", "sheet"] (liftSp ⟨K, P, w⟩ SDcounts) := okLarecountsright gs FLarecountsright FLpick OLpick gLpick FLdraw OLdraw gLdraw FLlevels OLlevels gLlevels FLsame OLsame gLsame Flevelcounts Olevelcounts glevelcounts Ftagcounts Otagcounts gtagcounts lenLarecountsright rdDcounts
  have OLrowat : FnOk P w K mg base CX0 1 _ fdLrowat ["rows", "path"] (liftSp ⟨K, P, w⟩ SDrowat) := okLrowat gs FLrowat  lenLrowat rdDrowat
  exact okC Flaw sclaw (k := 6) ⟨rfl, by decide, by decide⟩ lenlaw _ (fun cdv outer s H E => derlaw gs FLdeck OLdeck gLdeck FLsignature OLsignature gLsignature FLdisguised OLdisguised gLdisguised FLdrawnsheet OLdrawnsheet gLdrawnsheet FLleast OLleast gLleast FLfirstpaths OLfirstpaths gLfirstpaths Ffirstpaths Ofirstpaths gfirstpaths FLsame OLsame gLsame FLrowat OLrowat gLrowat FLpick OLpick gLpick Fpathtopart Opathtopart gpathtopart FLtags OLtags gLtags Fpathtotag Opathtotag gpathtotag FLarecountsright OLarecountsright gLarecountsright cdv callerA outer s H E (Room.deeper ⟨rfl, by decide, by decide⟩ _) rfl) rdDlaw
end
end DL.K81
set_option maxHeartbeats 0
namespace DL.K81
open PySem PySem.Spec PyProof.Rows L2 DL
theorem hrun (w : World) : HandSHeadRun.RunEq hrow (PySem.W.view hrow.prog [33]) hook hob 6000 hloose w := by
  intro os
  kernel_rfl
end DL.K81
set_option maxHeartbeats 0
open PySem PySem.W PySem.Calls PyProof.Rows
theorem PySem.Challenge.cw_roundties_k81_searched_values_holds : PySem.Challenge.rw_roundties_k81_searched_values.Holds := by
  w_on; o_law
  refine HandSHeadRun.head_any (r := OpenLaw.row PySem.Challenge.rw_roundties_k81_searched_values) (q := view (OpenLaw.row PySem.Challenge.rw_roundties_k81_searched_values).prog [33]) (H := DL.K81.hook) (ob := DL.K81.hob) (M := 6000) (loose := DL.K81.hloose) (d := HandSHeadRun.topDef (OpenLaw.row PySem.Challenge.rw_roundties_k81_searched_values).prog 33) (kwd := []) DL.K81.hob_eq
    (by kernel_rfl) (fun s => by kernel_rfl) DL.K81.hrun (by kernel_rfl) (by kernel_rfl) (by kernel_rfl) (by rfl) (by first | assumption | decide +kernel) (by decide +kernel) ⟨rfl, rfl, rfl, rfl, rfl, by decide +kernel⟩ ?hw ?hc
  case hw => w_witness2
  case hc =>
    refine DL.walk_C (l := PySem.Challenge.rw_roundties_k81_searched_values) (n := 63) (y := "script") rfl (by decide) (by kernel_rfl) ?F
    intro w mg fa h Y G hmg0
    obtain ⟨K, KX, c, nl⟩ := Y
    have hmg : mg ("law" : PySem.Str) = some (.ref fa) := by
      have e : (HandSHeadRun.topDef (OpenLaw.row PySem.Challenge.rw_roundties_k81_searched_values).prog 33).name = ("law" : PySem.Str) := by kernel_rfl
      rw [← e]
      exact hmg0
    obtain ⟨fd, hb, hF⟩ := DL.K81.facts (P := (PySem.Challenge.rw_roundties_k81_searched_values).prog) (w := w) KX G hmg c
    exact ⟨K, fd, _, KX, nl, hb, fun H a ns hS => DL.K81.promise hS, hF⟩
