import PyProof.Rows.All
import Wide.All
import OpenK.AllK
import Wide.FinOn
import HandS.Deep
import HandS.Dict
import HandS.DictComp
import HandS.ForExc
import HandS.ForMost
import HandS.HeadHook3
import HandS.IsInst
import HandS.Iter
import HandS.List
import HandS.More
import HandS.Star
import HandS.Style
import HandS.TryOnly
import HandS.TupAny
import HandS.TupSets
import HandS.Wide
import HandS.Zip
import KE.DataMinMax
import KE.GoesEnum
import KE.KDictList
import KE.KDictPairs
import KE.KTupSum
import KE.SortData
import PyProof.DictUpdate
import PyProof.Rows.InDataRows
import PySem.Challenge.RW_surehouse_k14_whole_audits
set_option Elab.async false
set_option linter.all false
set_option maxRecDepth 100000
set_option maxHeartbeats 8000000
/-! Sh0: data, states, judgements of the data layer. -/
namespace Sh
open PySem PySem.Spec PyProof.Rows L2

/-- what a value stands for -/
inductive D where
  | non
  | bl (b : Bool)
  | int (i : Int)
  | str (s : Str)
  | lst (xs : List D)
  | tup (xs : List D)
  | dct (kvs : List (Key × D))
  | raw (v : V)
  | ptup (xs : List D)

mutual
inductive Is (K : PySem.W.Frag) (G : Hp) : V → D → Prop
  | non : Is K G .non .non
  | bl (b : Bool) : Is K G (.bl b) (.bl b)
  | int (i : Int) : Is K G (.int i) (.int i)
  | str (x : Str) : Is K G (.str x) (.str x)
  | lst {a : Addr} {xs : List V} {ds : List D} : G a = some (.lst xs) → IsAll K G xs ds → Is K G (.ref a) (.lst ds)
  | tup {a : Addr} {xs : List V} {ds : List D} : SqT K G a xs → IsAll K G xs ds → Is K G (.ref a) (.tup ds)
  | dct {a : Addr} {kvs : List (Key × V)} {ds : List (Key × D)} : Rd G a (.dK kvs) → IsKV K G kvs ds → Is K G (.ref a) (.dct ds)
  | raw (v : V) : Is K G v (.raw v)
  | ptup {a : Addr} {xs : List V} {ds : List D} {o : Obj} : G a = some (.frz o (.tup xs)) → o.dict = none → IsAll K G xs ds → Is K G (.ref a) (.ptup ds)
inductive IsAll (K : PySem.W.Frag) (G : Hp) : List V → List D → Prop
  | nil : IsAll K G [] []
  | cons {v : V} {d : D} {vs : List V} {ds : List D} : Is K G v d → IsAll K G vs ds → IsAll K G (v :: vs) (d :: ds)
inductive IsKV (K : PySem.W.Frag) (G : Hp) : List (Key × V) → List (Key × D) → Prop
  | nil : IsKV K G [] []
  | cons {k : Key} {v : V} {d : D} {vs : List (Key × V)} {ds : List (Key × D)} : Is K G v d → IsKV K G vs ds → IsKV K G ((k, v) :: vs) ((k, d) :: ds)
end

theorem sqT_same {K : PySem.W.Frag} {H H' : Hp} {a : Addr} {xs : List V} (e : Same H H') (h : SqT K H a xs) : SqT K H' a xs := by
  rcases h with (h | ⟨o, h⟩) | h
  · exact Or.inl (Or.inl (e _ _ h))
  · exact Or.inl (Or.inr ⟨o, e _ _ h⟩)
  · exact Or.inr h
theorem rd_same {H H' : Hp} {a : Addr} {u : HO} (e : Same H H') (h : Rd H a u) : Rd H' a u := by
  rcases h with h | ⟨o, h⟩
  · exact Or.inl (e _ _ h)
  · exact Or.inr ⟨o, e _ _ h⟩
mutual
theorem Is.mono {K : PySem.W.Frag} {G G' : Hp} (e : Same G G') : ∀ {v : V} {d : D}, Is K G v d → Is K G' v d
  | _, _, .non => .non
  | _, _, .bl b => .bl b
  | _, _, .int i => .int i
  | _, _, .str x => .str x
  | _, _, .lst h a => .lst (e _ _ h) (IsAll.mono e a)
  | _, _, .tup h a => .tup (sqT_same e h) (IsAll.mono e a)
  | _, _, .dct h a => .dct (rd_same e h) (IsKV.mono e a)
  | _, _, .raw v => .raw v
  | _, _, .ptup h n a => .ptup (e _ _ h) n (IsAll.mono e a)
theorem IsAll.mono {K : PySem.W.Frag} {G G' : Hp} (e : Same G G') : ∀ {vs : List V} {ds : List D}, IsAll K G vs ds → IsAll K G' vs ds
  | _, _, .nil => .nil
  | _, _, .cons h t => .cons (Is.mono e h) (IsAll.mono e t)
theorem IsKV.mono {K : PySem.W.Frag} {G G' : Hp} (e : Same G G') : ∀ {vs : List (Key × V)} {ds : List (Key × D)}, IsKV K G vs ds → IsKV K G' vs ds
  | _, _, .nil => .nil
  | _, _, .cons h t => .cons (Is.mono e h) (IsKV.mono e t)
end
theorem IsAll.len {K : PySem.W.Frag} {G : Hp} : ∀ {vs : List V} {ds : List D}, IsAll K G vs ds → vs.length = ds.length
  | _, _, .nil => rfl
  | _, _, .cons _ t => congrArg (· + 1) (IsAll.len t)
theorem IsAll.get {K : PySem.W.Frag} {G : Hp} : ∀ {vs : List V} {ds : List D} {i : Nat} {d : D}, IsAll K G vs ds → ds[i]? = some d → ∃ v, vs[i]? = some v ∧ Is K G v d
  | _, _, _, _, .nil, e => by simp at e
  | _, _, 0, _, .cons r _, e => by simp at e; subst e; exact ⟨_, rfl, r⟩
  | _, _, i + 1, _, .cons _ t, e => by
    obtain ⟨v, h1, h2⟩ := IsAll.get (i := i) t (by simpa using e)
    exact ⟨v, by simpa using h1, h2⟩
theorem IsAll.get' {K : PySem.W.Frag} {G : Hp} : ∀ {vs : List V} {ds : List D} {i : Nat} {v : V}, IsAll K G vs ds → vs[i]? = some v → ∃ d, ds[i]? = some d ∧ Is K G v d
  | _, _, _, _, .nil, e => by simp at e
  | _, _, 0, _, .cons r _, e => by simp at e; subst e; exact ⟨_, rfl, r⟩
  | _, _, i + 1, _, .cons _ t, e => by
    obtain ⟨v, h1, h2⟩ := IsAll.get' (i := i) t (by simpa using e)
    exact ⟨v, by simpa using h1, h2⟩
theorem IsAll.append {K : PySem.W.Frag} {G : Hp} : ∀ {vs ws : List V} {ds es : List D}, IsAll K G vs ds → IsAll K G ws es → IsAll K G (vs ++ ws) (ds ++ es)
  | _, _, _, _, .nil, h => h
  | _, _, _, _, .cons r t, h => .cons r (IsAll.append t h)
theorem IsAll.take {K : PySem.W.Frag} {G : Hp} : ∀ {vs : List V} {ds : List D} (n : Nat), IsAll K G vs ds → IsAll K G (vs.take n) (ds.take n)
  | _, _, 0, _ => .nil
  | _, _, _ + 1, .nil => .nil
  | _, _, n + 1, .cons r t => .cons r (IsAll.take n t)
theorem IsAll.drop {K : PySem.W.Frag} {G : Hp} : ∀ {vs : List V} {ds : List D} (n : Nat), IsAll K G vs ds → IsAll K G (vs.drop n) (ds.drop n)
  | _, _, 0, h => h
  | _, _, _ + 1, .nil => .nil
  | _, _, n + 1, .cons r t => IsAll.drop n t
theorem IsAll.set {K : PySem.W.Frag} {G : Hp} {v : V} {d : D} (r : Is K G v d) : ∀ {vs : List V} {ds : List D} (n : Nat), IsAll K G vs ds → IsAll K G (vs.set n v) (ds.set n d)
  | _, _, _, .nil => .nil
  | _, _, 0, .cons _ t => .cons r t
  | _, _, n + 1, .cons q t => .cons q (IsAll.set r n t)
theorem IsAll.eraseIdx {K : PySem.W.Frag} {G : Hp} : ∀ {vs : List V} {ds : List D} (n : Nat), IsAll K G vs ds → IsAll K G (vs.eraseIdx n) (ds.eraseIdx n)
  | _, _, _, .nil => .nil
  | _, _, 0, .cons _ t => t
  | _, _, n + 1, .cons q t => .cons q (IsAll.eraseIdx n t)
theorem Is.lst_inv {K : PySem.W.Frag} {G : Hp} {v : V} {ds : List D} (h : Is K G v (.lst ds)) : ∃ a xs, v = .ref a ∧ G a = some (.lst xs) ∧ IsAll K G xs ds := by
  cases h with
  | lst h a => exact ⟨_, _, rfl, h, a⟩
theorem Is.tup_inv {K : PySem.W.Frag} {G : Hp} {v : V} {ds : List D} (h : Is K G v (.tup ds)) : ∃ a xs, v = .ref a ∧ SqT K G a xs ∧ IsAll K G xs ds := by
  cases h with
  | tup h a => exact ⟨_, _, rfl, h, a⟩
theorem Is.ptup_inv {K : PySem.W.Frag} {G : Hp} {v : V} {ds : List D} (h : Is K G v (.ptup ds)) : ∃ a xs o, v = .ref a ∧ G a = some (.frz o (.tup xs)) ∧ o.dict = none ∧ IsAll K G xs ds := by
  cases h with
  | ptup h n a => exact ⟨_, _, _, rfl, h, n, a⟩
theorem Is.weak {K : PySem.W.Frag} {G : Hp} {v : V} {ds : List D} (h : Is K G v (.ptup ds)) : Is K G v (.tup ds) := by
  obtain ⟨a, xs, o, rfl, h, _, al⟩ := h.ptup_inv
  exact .tup (.inl (.inr ⟨o, h⟩)) al
theorem Is.dct_inv {K : PySem.W.Frag} {G : Hp} {v : V} {ds : List (Key × D)} (h : Is K G v (.dct ds)) : ∃ a xs, v = .ref a ∧ Rd G a (.dK xs) ∧ IsKV K G xs ds := by
  cases h with
  | dct h a => exact ⟨_, _, rfl, h, a⟩
theorem Is.int_inv {K : PySem.W.Frag} {G : Hp} {v : V} {i : Int} (h : Is K G v (.int i)) : v = .int i := by cases h; rfl
theorem Is.str_inv {K : PySem.W.Frag} {G : Hp} {v : V} {i : Str} (h : Is K G v (.str i)) : v = .str i := by cases h; rfl
theorem Is.bl_inv {K : PySem.W.Frag} {G : Hp} {v : V} {i : Bool} (h : Is K G v (.bl i)) : v = .bl i := by cases h; rfl
theorem Is.non_inv {K : PySem.W.Frag} {G : Hp} {v : V} (h : Is K G v .non) : v = .non := by cases h; rfl
theorem Is.raw_inv {K : PySem.W.Frag} {G : Hp} {v : V} {u : V} (h : Is K G v (.raw u)) : v = u := by cases h; rfl

/-! ### what else may change: J -/
structure Jn where
  M : Addr → Prop
  inv : Hp → Prop
  st : ∀ H H' : Hp, inv H → (∀ a, M a → H' a = H a) → inv H'
def J0 : Jn := ⟨fun _ => False, fun _ => True, fun _ _ _ _ => trivial⟩
structure Bs (J : Jn) (G H : Hp) : Prop where
  gh : Same G H
  inv : J.inv H
  al : ∀ a, J.M a → H a ≠ none ∧ G a = none
structure Up (J : Jn) (G H G' H' : Hp) : Prop where
  g : Same G G'
  gh : Same G' H'
  h : ∀ a o, ¬ J.M a → H a = some o → H' a = some o
  fr : ∀ a, H a ≠ none → H' a ≠ none
  hid : ∀ a, G a = none → H a ≠ none → G' a = none
  inv : J.inv H'
section
variable {J : Jn} {G H G1 H1 G2 H2 : Hp}
theorem Up.refl (b : Bs J G H) : Up J G H G H := ⟨Same.refl G, b.gh, fun _ _ _ e => e, fun _ e => e, fun _ e _ => e, b.inv⟩
theorem Up.trans (a : Up J G H G1 H1) (b : Up J G1 H1 G2 H2) : Up J G H G2 H2 :=
  ⟨a.g.trans b.g, b.gh, fun x o m e => b.h x o m (a.h x o m e), fun x e => b.fr x (a.fr x e), fun x e e2 => b.hid x (a.hid x e e2) (a.fr x e2), b.inv⟩
theorem Bs.up (b : Bs J G H) (u : Up J G H G1 H1) : Bs J G1 H1 := ⟨u.gh, u.inv, fun a m => ⟨u.fr a (b.al a m).1, u.hid a (b.al a m).2 (b.al a m).1⟩⟩
theorem Up.new (b : Bs J G H) {p : Addr} {o : HO} (hp : H p = none) : Up J G H (upd G p o) (upd H p o) := by
  have hg : G p = none := b.gh.free hp
  refine ⟨fun a u e => ?_, fun a u e => ?_, fun a u _ e => ?_, fun a e => ?_, fun a e e2 => ?_, J.st _ _ b.inv fun a m => ?_⟩
  · rw [upd_ne (ne_of_none e hg)]; exact e
  · by_cases q : a = p
    · rw [q, upd_same] at e ⊢; exact e
    · rw [upd_ne q] at e ⊢; exact b.gh a u e
  · rw [upd_ne (ne_of_none e hp)]; exact e
  · by_cases q : a = p
    · rw [q, upd_same]; simp
    · rw [upd_ne q]; exact e
  · by_cases q : a = p
    · rw [q] at e2; exact absurd hp e2
    · rw [upd_ne q]; exact e
  · exact upd_ne fun q => (b.al a m).1 (by rw [q]; exact hp)
/-- a new object that the data do not know -/
theorem Up.newH (b : Bs J G H) {p : Addr} {o : HO} (hp : H p = none) : Up J G H G (upd H p o) := by
  have hg : G p = none := b.gh.free hp
  refine ⟨Same.refl G, fun a u e => ?_, fun a u _ e => ?_, fun a e => ?_, fun a e e2 => e, J.st _ _ b.inv fun a m => ?_⟩
  · rw [upd_ne (ne_of_none e hg)]; exact b.gh a u e
  · rw [upd_ne (ne_of_none e hp)]; exact e
  · by_cases q : a = p
    · rw [q, upd_same]; simp
    · rw [upd_ne q]; exact e
  · exact upd_ne fun q => (b.al a m).1 (by rw [q]; exact hp)
theorem Up.same (b : Bs J G H) (e : Same H H1) : Up J G H G H1 := by
  have fr : ∀ a, H a ≠ none → H1 a ≠ none := fun a n => by
    cases q : H a with
    | none => exact absurd q n
    | some o => rw [e a o q]; simp
  refine ⟨Same.refl G, b.gh.trans e, fun a o _ q => e a o q, fr, fun _ q _ => q, J.st _ _ b.inv fun a m => ?_⟩
  cases q : H a with
  | none => exact absurd q (b.al a m).1
  | some o => exact e a o q
theorem Bs.zero (b : Bs J G H) : Bs J0 G H := ⟨b.gh, trivial, fun _ m => m.elim⟩
/-- what a pure def does is nothing to J -/
theorem Up.ofZero (b : Bs J G H) (u : Up J0 G H G1 H1) : Up J G H G1 H1 := by
  refine ⟨u.g, u.gh, fun a o _ e => u.h a o (fun z => z) e, u.fr, u.hid, J.st _ _ b.inv fun a m => ?_⟩
  cases q : H a with
  | none => exact absurd q (b.al a m).1
  | some o => exact u.h a o (fun z => z) q
end

/-! ### the slots -/
inductive OW where
  | lst (xs : List D)
  | dct (kvs : List (Key × D))
  | dl (kvs : List (Key × List D))
  | gen (bs : List Addr) (ds : List D) (mk : List V → List HO)
inductive SL where
  | no
  | d (x : D)
  | own (w : OW)
inductive DlOk (K : PySem.W.Frag) (G H : Hp) : List (Key × V) → List Addr → List (Key × List D) → Prop
  | nil : DlOk K G H [] [] []
  | cons {k : Key} {q : Addr} {ws : List V} {xs : List D} {vs : List (Key × V)} {qs : List Addr} {kvs : List (Key × List D)} : H q = some (.lst ws) → IsAll K G ws xs → DlOk K G H vs qs kvs → DlOk K G H ((k, .ref q) :: vs) (q :: qs) ((k, xs) :: kvs)
/-- what an own thing may stand on: no tuple -/
def Lk (o : HO) : Prop := (∀ xs, o ≠ .tup xs) ∧ ∀ o' xs, o ≠ .frz o' (.tup xs)
def OwOk (K : PySem.W.Frag) (G H : Hp) (p : Addr) (as : List Addr) : OW → Prop
  | .lst xs => as = [p] ∧ ∃ vs, H p = some (.lst vs) ∧ IsAll K G vs xs
  | .dct kvs => as = [p] ∧ ∃ vs, H p = some (.dK vs) ∧ IsKV K G vs kvs
  | .dl kvs => ∃ vs qs, as = p :: qs ∧ as.Nodup ∧ H p = some (.dK vs) ∧ DlOk K G H vs qs kvs
  | .gen bs ds mk => as = bs ∧ bs.head? = some p ∧ ∃ vs, IsAll K G vs ds ∧ ∀ (j : Nat) a, bs[j]? = some a → ∃ o, (mk vs)[j]? = some o ∧ H a = some o ∧ Lk o
def SlOk (K : PySem.W.Frag) (H0 G H : Hp) (o : Option (Option V)) (as : List Addr) : SL → Prop
  | .no => as = []
  | .d x => as = [] ∧ ∃ v, o = some (some v) ∧ Is K G v x
  | .own w => ∃ p, o = some (some (.ref p)) ∧ OwOk K G H p as w ∧ ∀ a ∈ as, H0 a = none ∧ G a = none
structure StG (K : PySem.W.Frag) (J : Jn) (G0 H0 : Hp) (env : List SL) (σ : L2.St) (H G : Hp) : Prop where
  up : Up J G0 H0 G H
  al0 : ∀ a, J.M a → H0 a ≠ none ∧ G0 a = none
  len : σ.length = env.length
  sl : ∃ ad : Nat → List Addr, (∀ i s, env[i]? = some s → SlOk K H0 G H σ[i]? (ad i) s) ∧ (∀ i j a, i ≠ j → a ∈ ad i → a ∈ ad j → False) ∧ ∀ i, env.length ≤ i → ad i = []
theorem DlOk.mono {K : PySem.W.Frag} {G H G' H' : Hp} (e : Same G G') : ∀ {vs : List (Key × V)} {qs : List Addr} {kvs : List (Key × List D)}, DlOk K G H vs qs kvs → (∀ q ∈ qs, ∀ o, H q = some o → H' q = some o) → DlOk K G' H' vs qs kvs
  | _, _, _, .nil, _ => .nil
  | _, _, _, .cons h a t, k => .cons (k _ List.mem_cons_self _ h) (a.mono e) (DlOk.mono e t fun q hq o ho => k q (List.mem_cons_of_mem _ hq) o ho)
section
variable {K : PySem.W.Frag} {J : Jn} {G0 H0 G H G1 H1 : Hp} {env : List SL} {σ : L2.St}
theorem StG.bs (s : StG K J G0 H0 env σ H G) : Bs J G H := ⟨s.up.gh, s.up.inv, fun a m => ⟨s.up.fr a (s.al0 a m).1, s.up.hid a (s.al0 a m).2 (s.al0 a m).1⟩⟩
theorem OwOk.ext {p : Addr} {as : List Addr} {w : OW} (h : OwOk K G H p as w) (e : Same G G1) (k : ∀ a ∈ as, ∀ o, H a = some o → H1 a = some o) : OwOk K G1 H1 p as w := by
  cases w with
  | lst xs => obtain ⟨ea, vs, hp, a⟩ := h; subst ea; exact ⟨rfl, vs, k p (by simp) _ hp, a.mono e⟩
  | dct xs => obtain ⟨ea, vs, hp, a⟩ := h; subst ea; exact ⟨rfl, vs, k p (by simp) _ hp, a.mono e⟩
  | dl kvs =>
    obtain ⟨vs, qs, ea, nd, hp, a⟩ := h
    subst ea
    exact ⟨vs, qs, rfl, nd, k p (by simp) _ hp, a.mono e fun q hq o ho => k q (List.mem_cons_of_mem _ hq) o ho⟩
  | gen bs ds mk =>
    obtain ⟨ea, hb, vs, al, ob⟩ := h
    subst ea
    exact ⟨rfl, hb, vs, al.mono e, fun j a ha => let ⟨o, h1, h2, h3⟩ := ob j a ha; ⟨o, h1, k a (List.mem_of_getElem? ha) o h2, h3⟩⟩
theorem DlOk.live {vs : List (Key × V)} {qs : List Addr} {kvs : List (Key × List D)} (h : DlOk K G H vs qs kvs) : ∀ a ∈ qs, H a ≠ none := by
  induction h with
  | nil => intro a ha; cases ha
  | cons h _ _ ih =>
    intro a ha
    rcases List.mem_cons.mp ha with y | y
    · rw [y, h]; simp
    · exact ih a y
theorem OwOk.live {p : Addr} {as : List Addr} {w : OW} (r : OwOk K G H p as w) : ∀ a ∈ as, H a ≠ none := fun a ha => by
  cases w with
  | lst xs => obtain ⟨ea, vs, hp, _⟩ := r; rw [ea] at ha; rw [List.mem_singleton.mp ha, hp]; simp
  | dct xs => obtain ⟨ea, vs, hp, _⟩ := r; rw [ea] at ha; rw [List.mem_singleton.mp ha, hp]; simp
  | dl kvs =>
    obtain ⟨vs, qs, ea, nd, hp, dl⟩ := r
    rw [ea] at ha
    rcases List.mem_cons.mp ha with z | z
    · rw [z, hp]; simp
    · exact dl.live a z
  | gen bs ds mk =>
    obtain ⟨ea, hb, vs, al, ob⟩ := r
    rw [ea] at ha
    obtain ⟨j, hj, e⟩ := List.getElem_of_mem ha
    obtain ⟨o, _, h2, _⟩ := ob j a (by rw [List.getElem?_eq_getElem hj, e])
    rw [h2]; simp
theorem StG.ext (s : StG K J G0 H0 env σ H G) (u : Up J G H G1 H1) : StG K J G0 H0 env σ H1 G1 := by
  obtain ⟨ad, h1, h2, h3⟩ := s.sl
  refine ⟨s.up.trans u, s.al0, s.len, ad, fun i sl e => ?_, h2, h3⟩
  have q := h1 i sl e
  cases sl with
  | no => exact q
  | d x => obtain ⟨e1, v, e2, r⟩ := q; exact ⟨e1, v, e2, r.mono u.g⟩
  | own w =>
    obtain ⟨p, e2, r, f⟩ := q
    have hm : ∀ a ∈ ad i, ¬ J.M a := fun a ha m => (s.al0 a m).1 (f a ha).1
    exact ⟨p, e2, r.ext u.g fun a ha o ho => u.h a o (hm a ha) ho, fun a ha => ⟨(f a ha).1, u.hid a (f a ha).2 (r.live a ha)⟩⟩
def put (ad : Nat → List Addr) (i : Nat) (as : List Addr) (j : Nat) : List Addr := if j = i then as else ad j
theorem put_same {ad : Nat → List Addr} {i : Nat} {as : List Addr} : put ad i as i = as := by unfold put; rw [if_pos rfl]
theorem put_ne {ad : Nat → List Addr} {i j : Nat} {as : List Addr} (h : j ≠ i) : put ad i as j = ad j := by unfold put; rw [if_neg h]
/-- a slot is set -/
theorem StG.setS (s : StG K J G0 H0 env σ H G) (i : Nat) {v : V} {x : SL} {as : List Addr} (r : SlOk K H0 G H (some (some v)) as x) (nw : ∀ j sl as', j ≠ i → env[j]? = some sl → SlOk K H0 G H σ[j]? as' sl → ∀ a ∈ as, a ∉ as') :
    StG K J G0 H0 (env.set i x) (σ.set i (some v)) H G := by
  obtain ⟨ad, h1, h2, h3⟩ := s.sl
  have off : ∀ j a, j ≠ i → a ∈ as → a ∈ ad j → False := fun j a q m1 m2 => by
    by_cases hj : j < env.length
    · exact nw j _ _ q (List.getElem?_eq_getElem hj) (h1 j _ (List.getElem?_eq_getElem hj)) a m1 m2
    · rw [h3 j (by omega)] at m2; cases m2
  by_cases hi : i < env.length
  · refine ⟨s.up, s.al0, by rw [List.length_set, List.length_set]; exact s.len, put ad i as, fun j sl e => ?_, fun j k a n m1 m2 => ?_, fun j hj => ?_⟩
    · by_cases q : j = i
      · subst q
        rw [List.getElem?_set_self hi] at e
        cases e
        rw [put_same, List.getElem?_set_self (by rw [s.len]; exact hi)]
        exact r
      · rw [List.getElem?_set_ne (Ne.symm q)] at e
        rw [put_ne q, List.getElem?_set_ne (Ne.symm q)]
        exact h1 j sl e
    · by_cases q : j = i
      · subst q
        rw [put_same] at m1
        rw [put_ne (Ne.symm n)] at m2
        exact off k a (Ne.symm n) m1 m2
      · rw [put_ne q] at m1
        by_cases q2 : k = i
        · subst q2
          rw [put_same] at m2
          exact off j a q m2 m1
        · rw [put_ne q2] at m2
          exact h2 j k a n m1 m2
    · rw [List.length_set] at hj
      rw [put_ne (by omega)]; exact h3 j hj
  · rw [List.set_eq_of_length_le (by omega), List.set_eq_of_length_le (by rw [s.len]; omega)]
    exact s
theorem StG.setD (s : StG K J G0 H0 env σ H G) (i : Nat) {v : V} {d : D} (r : Is K G v d) : StG K J G0 H0 (env.set i (.d d)) (σ.set i (some v)) H G :=
  s.setS i (as := []) ⟨rfl, v, rfl, r⟩ fun _ _ _ _ _ _ a ha => by cases ha
theorem SlOk.live {o : Option (Option V)} {as : List Addr} {x : SL} (r : SlOk K H0 G H o as x) : ∀ a ∈ as, H a ≠ none := fun a ha => by
  cases x with
  | no => rw [show as = [] from r] at ha; cases ha
  | d x => rw [r.1] at ha; cases ha
  | own w => obtain ⟨p, _, r, _⟩ := r; exact r.live a ha
/-- a slot takes a thing of its own that is new: H1 is H with it -/
theorem StG.setN (s : StG K J G0 H0 env σ H G) (i : Nat) {p : Addr} {as : List Addr} {w : OW} (u : Up J G H G H1) (r : OwOk K G H1 p as w) (f : ∀ a ∈ as, H a = none) : StG K J G0 H0 (env.set i (.own w)) (σ.set i (some (.ref p))) H1 G := by
  have f0 : ∀ a ∈ as, H0 a = none ∧ G a = none := fun a ha => by
    refine ⟨?_, s.bs.gh.free (f a ha)⟩
    cases q : H0 a with
    | none => rfl
    | some o => exact absurd (f a ha) (s.up.fr a (by rw [q]; simp))
  obtain ⟨ad, h1, h2, h3⟩ := s.sl
  have s1 := s.ext u
  have s2 := s1.up
  have off : ∀ j, ∀ a ∈ as, a ∉ ad j := fun j a ha m => by
    by_cases hj : j < env.length
    · exact (h1 j _ (List.getElem?_eq_getElem hj)).live a m (f a ha)
    · rw [h3 j (by omega)] at m; cases m
  have k : ∀ j sl, env[j]? = some sl → SlOk K H0 G H1 σ[j]? (ad j) sl := fun j sl e => by
    have q := h1 j sl e
    cases sl with
    | no => exact q
    | d x => obtain ⟨e1, v, e2, r⟩ := q; exact ⟨e1, v, e2, r⟩
    | own w =>
      obtain ⟨p, e2, r, g⟩ := q
      have hm : ∀ a ∈ ad j, ¬ J.M a := fun a ha m => (s.al0 a m).1 (g a ha).1
      exact ⟨p, e2, r.ext (Same.refl G) fun a ha o ho => u.h a o (hm a ha) ho, g⟩
  by_cases hi : i < env.length
  · refine ⟨s2, s.al0, by rw [List.length_set, List.length_set]; exact s.len, put ad i as, fun j sl e => ?_, fun j k a n m1 m2 => ?_, fun j hj => ?_⟩
    · by_cases q : j = i
      · subst q
        rw [List.getElem?_set_self hi] at e
        cases e
        rw [put_same, List.getElem?_set_self (by rw [s.len]; exact hi)]
        exact ⟨p, rfl, r, f0⟩
      · rw [List.getElem?_set_ne (Ne.symm q)] at e
        rw [put_ne q, List.getElem?_set_ne (Ne.symm q)]
        exact k j sl e
    · by_cases q : j = i
      · subst q
        rw [put_same] at m1
        rw [put_ne (Ne.symm n)] at m2
        exact off k a m1 m2
      · rw [put_ne q] at m1
        by_cases q2 : k = i
        · subst q2
          rw [put_same] at m2
          exact off j a m2 m1
        · rw [put_ne q2] at m2
          exact h2 j k a n m1 m2
    · rw [List.length_set] at hj
      rw [put_ne (by omega)]; exact h3 j hj
  · rw [List.set_eq_of_length_le (show env.length ≤ i by omega), List.set_eq_of_length_le (show σ.length ≤ i by rw [s.len]; omega)]
    exact ⟨s2, s.al0, s.len, ad, k, h2, h3⟩
end
end Sh
/-! Sh1: freezing; the judgement of an expression. -/
namespace Sh
open PySem PySem.Spec PyProof.Rows L2
mutual
inductive TupO : D → Prop
  | non : TupO .non
  | bl (b : Bool) : TupO (.bl b)
  | int (i : Int) : TupO (.int i)
  | str (x : Str) : TupO (.str x)
  | raw (v : V) : TupO (.raw v)
  | tup {ds : List D} : TupAll ds → TupO (.tup ds)
inductive TupAll : List D → Prop
  | nil : TupAll []
  | cons {d : D} {ds : List D} : TupO d → TupAll ds → TupAll (d :: ds)
end
theorem TupAll.map {α : Type} {f : α → D} (h : ∀ x, TupO (f x)) : ∀ xs : List α, TupAll (xs.map f)
  | [] => .nil
  | x :: xs => .cons (h x) (TupAll.map h xs)
def frz : SL → SL
  | .own (.lst xs) => .d (.lst xs)
  | .own (.dct kvs) => .d (.dct kvs)
  | .own (.dl kvs) => .d (.dct (kvs.map fun p => (p.1, .lst p.2)))
  | .own (.gen _ _ _) => .no
  | .no => .no
  | .d x => .d x
theorem DlOk.data {K : PySem.W.Frag} {G H G' : Hp} (e : Same G G') : ∀ {vs : List (Key × V)} {qs : List Addr} {kvs : List (Key × List D)}, DlOk K G H vs qs kvs → (∀ q ∈ qs, G' q = H q) → IsKV K G' vs (kvs.map fun p => (p.1, .lst p.2))
  | _, _, _, .nil, _ => .nil
  | _, _, _, .cons h a t, k => .cons (.lst ((k _ List.mem_cons_self).trans h) (a.mono e)) (DlOk.data e t fun q hq => k q (List.mem_cons_of_mem _ hq))
theorem lk_lst {xs : List V} : Lk (.lst xs) := ⟨fun _ z => (by cases z), fun _ _ z => (by cases z)⟩
theorem lk_dK {xs : List (Key × V)} : Lk (.dK xs) := ⟨fun _ z => (by cases z), fun _ _ z => (by cases z)⟩
theorem DlOk.lk {K : PySem.W.Frag} {G H : Hp} {vs : List (Key × V)} {qs : List Addr} {kvs : List (Key × List D)} (h : DlOk K G H vs qs kvs) : ∀ a ∈ qs, ∃ o, H a = some o ∧ Lk o := by
  induction h with
  | nil => intro a ha; cases ha
  | cons h _ _ ih =>
    intro a ha
    rcases List.mem_cons.mp ha with y | y
    · exact ⟨_, by rw [y, h], lk_lst⟩
    · exact ih a y
theorem OwOk.lk {K : PySem.W.Frag} {G H : Hp} {p : Addr} {as : List Addr} {w : OW} (r : OwOk K G H p as w) : ∀ a ∈ as, ∃ o, H a = some o ∧ Lk o := fun a ha => by
  cases w with
  | lst xs => obtain ⟨ea, vs, hp, _⟩ := r; rw [ea] at ha; rw [List.mem_singleton.mp ha]; exact ⟨_, hp, lk_lst⟩
  | dct xs => obtain ⟨ea, vs, hp, _⟩ := r; rw [ea] at ha; rw [List.mem_singleton.mp ha]; exact ⟨_, hp, lk_dK⟩
  | dl kvs =>
    obtain ⟨vs, qs, ea, nd, hp, dl⟩ := r
    rw [ea] at ha
    rcases List.mem_cons.mp ha with z | z
    · rw [z]; exact ⟨_, hp, lk_dK⟩
    · exact dl.lk a z
  | gen bs ds mk =>
    obtain ⟨ea, hb, vs, al, ob⟩ := r
    rw [ea] at ha
    obtain ⟨j, hj, e⟩ := List.getElem_of_mem ha
    obtain ⟨o, _, h2, h3⟩ := ob j a (by rw [List.getElem?_eq_getElem hj, e])
    exact ⟨o, h2, h3⟩
structure Fz (K : PySem.W.Frag) (J : Jn) (G0 H0 : Hp) (env : List SL) (σ : L2.St) (H G : Hp) (O : Addr → Prop) (Gf : Hp) : Prop where
  nog : ∀ a, O a → G a = none
  lk : ∀ a, O a → ∃ o, H a = some o ∧ Lk o
  ino : ∀ a, O a → Gf a = H a
  out : ∀ a, ¬ O a → Gf a = G a
  st : StG K J G0 H0 (env.map frz) σ H Gf
section
variable {K : PySem.W.Frag} {J : Jn} {G0 H0 G H G1 H1 Gf : Hp} {env : List SL} {σ : L2.St} {O : Addr → Prop}
open Classical in
theorem StG.freeze (s : StG K J G0 H0 env σ H G) : ∃ O Gf, Fz K J G0 H0 env σ H G O Gf := by
  obtain ⟨ad, h1, h2, h3⟩ := s.sl
  have f : ∀ a, (∃ i, a ∈ ad i) → (H0 a = none ∧ G a = none) ∧ ∃ o, H a = some o ∧ Lk o := fun a ⟨i, ha⟩ => by
    by_cases hi : i < env.length
    · have q := h1 i _ (List.getElem?_eq_getElem hi)
      cases e : env[i] with
      | no => rw [e] at q; rw [show ad i = [] from q] at ha; cases ha
      | d x => rw [e] at q; rw [q.1] at ha; cases ha
      | own w => rw [e] at q; obtain ⟨p, _, r, g⟩ := q; exact ⟨g a ha, r.lk a ha⟩
    · rw [h3 i (by omega)] at ha; cases ha
  refine ⟨fun a => ∃ i, a ∈ ad i, fun a => if ∃ i, a ∈ ad i then H a else G a, fun a ha => (f a ha).1.2, fun a ha => (f a ha).2, fun a ha => if_pos ha, fun a ha => if_neg ha, ?_⟩
  generalize hG : (fun a => if ∃ i, a ∈ ad i then H a else G a) = Gf
  have e1 : ∀ a, (∃ i, a ∈ ad i) → Gf a = H a := fun a ha => by rw [← hG]; exact if_pos ha
  have e2 : ∀ a, (¬ ∃ i, a ∈ ad i) → Gf a = G a := fun a ha => by rw [← hG]; exact if_neg ha
  have gg : Same G Gf := fun a o e => by
    rw [e2 a fun z => by rw [(f a z).1.2] at e; cases e]; exact e
  refine ⟨⟨s.up.g.trans gg, fun a o e => ?_, s.up.h, s.up.fr, fun a n n2 => ?_, s.up.inv⟩, s.al0, by rw [List.length_map]; exact s.len, fun _ => [], fun i sl e => ?_, fun _ _ _ _ (m : _ ∈ []) => absurd m (by simp), fun _ _ => rfl⟩
  · by_cases z : ∃ i, a ∈ ad i
    · rw [e1 a z] at e; exact e
    · rw [e2 a z] at e; exact s.bs.gh a o e
  · rw [e2 a fun z => n2 (f a z).1.1]
    exact s.up.hid a n n2
  · rw [List.getElem?_map] at e
    cases e0 : env[i]? with
    | none => rw [e0] at e; cases e
    | some x =>
      rw [e0] at e
      cases e
      have q := h1 i x e0
      cases x with
      | no => rfl
      | d x => obtain ⟨_, v, e3, r⟩ := q; exact ⟨rfl, v, e3, r.mono gg⟩
      | own w =>
        obtain ⟨p, e3, r, g⟩ := q
        cases w with
        | lst xs => obtain ⟨ea, vs, hp, a⟩ := r; exact ⟨rfl, .ref p, e3, .lst ((e1 p ⟨i, by rw [ea]; simp⟩).trans hp) (a.mono gg)⟩
        | dct xs => obtain ⟨ea, vs, hp, a⟩ := r; exact ⟨rfl, .ref p, e3, .dct (.inl ((e1 p ⟨i, by rw [ea]; simp⟩).trans hp)) (a.mono gg)⟩
        | dl kvs =>
          obtain ⟨vs, qs, ea, nd, hp, dl⟩ := r
          exact ⟨rfl, .ref p, e3, .dct (.inl ((e1 p ⟨i, by rw [ea]; simp⟩).trans hp)) (dl.data gg fun q hq => e1 q ⟨i, by rw [ea]; exact List.mem_cons_of_mem _ hq⟩)⟩
        | gen bs ds mk => rfl
theorem Fz.gg (z : Fz K J G0 H0 env σ H G O Gf) : Same G Gf := fun a o e => by
  rw [z.out a fun y => by rw [z.nog a y] at e; cases e]; exact e
open Classical in
/-- out of the cold: behind an expression that saw the own things frozen -/
theorem Fz.back (z : Fz K J G0 H0 env σ H G O Gf) (u : Up J Gf H G1 H1) : ∃ G2, Up J G H G2 H1 ∧ ∀ v d, TupO d → Is K G1 v d → Is K G2 v d := by
  have off : ∀ a, O a → G1 a = H a := fun a ha => by
    obtain ⟨o, e, _⟩ := z.lk a ha
    rw [e]
    exact u.g a o ((z.ino a ha).trans e)
  refine ⟨fun a => if O a then none else G1 a, ⟨fun a o e => ?_, fun a o e => ?_, u.h, u.fr, fun a n n2 => ?_, u.inv⟩, ?_⟩
  · have ha : ¬ O a := fun y => by rw [z.nog a y] at e; cases e
    show (if O a then none else G1 a) = some o
    rw [if_neg ha]
    exact u.g a o (z.gg a o e)
  · have e' : (if O a then none else G1 a) = some o := e
    by_cases ha : O a
    · rw [if_pos ha] at e'; cases e'
    · rw [if_neg ha] at e'; exact u.gh a o e'
  · show (if O a then none else G1 a) = none
    by_cases ha : O a
    · rw [if_pos ha]
    · rw [if_neg ha]
      exact u.hid a (by rw [z.out a ha]; exact n) n2
  · have key : ∀ a xs, SqT K G1 a xs → SqT K (fun a => if O a then none else G1 a) a xs := fun a xs h => by
      have no : ∀ o, G1 a = some o → (¬ Lk o) → ¬ O a := fun o e l y => by
        obtain ⟨o', e', l'⟩ := z.lk a y
        rw [off a y, e'] at e
        cases e
        exact l l'
      rcases h with (h | ⟨o, h⟩) | h
      · refine .inl (.inl ?_)
        show (if O a then none else G1 a) = _
        rw [if_neg (no _ h fun l => l.1 _ rfl)]; exact h
      · refine .inl (.inr ⟨o, ?_⟩)
        show (if O a then none else G1 a) = _
        rw [if_neg (no _ h fun l => l.2 _ _ rfl)]; exact h
      · exact .inr h
    intro v d t h
    have both : (∀ d, TupO d → ∀ v, Is K G1 v d → Is K (fun a => if O a then none else G1 a) v d) := by
      intro d t
      refine TupO.rec (motive_1 := fun d _ => ∀ v, Is K G1 v d → Is K (fun a => if O a then none else G1 a) v d) (motive_2 := fun ds _ => ∀ vs, IsAll K G1 vs ds → IsAll K (fun a => if O a then none else G1 a) vs ds) ?_ ?_ ?_ ?_ ?_ ?_ ?_ ?_ t
      · intro v h; cases h; exact .non
      · intro b v h; cases h; exact .bl b
      · intro b v h; cases h; exact .int b
      · intro b v h; cases h; exact .str b
      · intro b v h; cases h; exact .raw b
      · intro ds _ ih v h
        cases h with
        | tup h a => exact .tup (key _ _ h) (ih _ a)
      · intro vs h; cases h; exact .nil
      · intro d ds _ _ i1 i2 vs h
        cases h with
        | cons r t => exact .cons (i1 _ r) (i2 _ t)
    exact both d t v h
end

/-! ### the judgements -/
abbrev wpE (X : Cx) (e : Expr) : TE := fun σ H Q => ∀ pins s, Inv X pins σ H s → wpAny (model X.prog X.w) X.A (eval e X.env) (EP X pins σ Q) X.xe s
abbrev wpT (X : Cx) (e : Expr) : TT := fun σ H Q => ∀ pins s, Inv X pins σ H s → wpAny (model X.prog X.w) X.A (isTrue e X.env (eval e X.env)) (TP X pins σ Q) X.xe s
abbrev wpA (X : Cx) (es : List Expr) : TA := fun σ H Q => ∀ (pos : Pos) pins s, Inv X pins σ H s → wpAny (model X.prog X.w) X.A (spliced (backTo pos (starEach es X.env))) (AP X pins σ Q) X.xe s
theorem pe_wp {X : Cx} {e : Expr} : PE X e (wpE X e) := ⟨fun pins s _ _ _ I h => h pins s I⟩
theorem pt_wp {X : Cx} {e : Expr} : PT X e (wpT X e) := ⟨fun pins s _ _ _ I h => h pins s I⟩
theorem pa_wp {X : Cx} {es : List Expr} : PA X es (wpA X es) := ⟨fun pos pins s _ _ _ I h => h pos pins s I⟩
theorem wp_of {X : Cx} {e : Expr} {t : TE} {σ : L2.St} {H : Hp} {Q : VK} (p : PE X e t) (h : t σ H Q) : wpE X e σ H Q := fun pins s I => p.run pins s σ H Q I h
theorem wpT_of {X : Cx} {e : Expr} {t : TT} {σ : L2.St} {H : Hp} {Q : Bool → Hp → Prop} (p : PT X e t) (h : t σ H Q) : wpT X e σ H Q := fun pins s I => p.run pins s σ H Q I h
theorem wpA_of {X : Cx} {es : List Expr} {t : TA} {σ : L2.St} {H : Hp} {Q : List V → Hp → Prop} (p : PA X es t) (h : t σ H Q) : wpA X es σ H Q := fun pos pins s I => p.run pos pins s σ H Q I h

/-- e comes to data with P -/
def EP' (X : Cx) (J : Jn) (env : List SL) (e : Expr) (P : D → Prop) : Prop := ∀ (G0 H0 : Hp) (σ : L2.St) (H G : Hp) (Q : VK), StG X.K J G0 H0 env σ H G →
  (∀ v d G1 H1, Up J G H G1 H1 → Is X.K G1 v d → P d → Q v H1) → wpE X e σ H Q
abbrev DE (X : Cx) (J : Jn) (env : List SL) (e : Expr) (d : D) : Prop := EP' X J env e (fun x => x = d)
/-- a test comes to a truth with P -/
def TP' (X : Cx) (J : Jn) (env : List SL) (e : Expr) (P : Bool → Prop) : Prop := ∀ (G0 H0 : Hp) (σ : L2.St) (H G : Hp) (Q : Bool → Hp → Prop), StG X.K J G0 H0 env σ H G →
  (∀ b G1 H1, Up J G H G1 H1 → P b → Q b H1) → wpT X e σ H Q
abbrev DT (X : Cx) (J : Jn) (env : List SL) (e : Expr) (b : Bool) : Prop := TP' X J env e (fun x => x = b)
/-- arguments -/
def AP' (X : Cx) (J : Jn) (env : List SL) (es : List Expr) (P : List D → Prop) : Prop := ∀ (G0 H0 : Hp) (σ : L2.St) (H G : Hp) (Q : List V → Hp → Prop), StG X.K J G0 H0 env σ H G →
  (∀ vs ds G1 H1, Up J G H G1 H1 → IsAll X.K G1 vs ds → P ds → Q vs H1) → wpA X es σ H Q
abbrev DA (X : Cx) (J : Jn) (env : List SL) (es : List Expr) (ds : List D) : Prop := AP' X J env es (fun x => x = ds)
section
variable {X : Cx} {J : Jn} {env : List SL} {e a b : Expr} {es : List Expr} {P P1 P2 : D → Prop} {d x y : D} {pos : Pos}
theorem EP'.imp (h : EP' X J env e P) (k : ∀ d, P d → P1 d) : EP' X J env e P1 := fun G0 H0 σ H G Q s q => h G0 H0 σ H G Q s fun v d G1 H1 u r p => q v d G1 H1 u r (k d p)
theorem TP'.imp {P P1 : Bool → Prop} (h : TP' X J env e P) (k : ∀ d, P d → P1 d) : TP' X J env e P1 := fun G0 H0 σ H G Q s q => h G0 H0 σ H G Q s fun d G1 H1 u p => q d G1 H1 u (k d p)
theorem DE.cast {d' : D} (h : DE X J env e d) (k : d = d') : DE X J env e d' := by rw [← k]; exact h
theorem DT.cast {b b' : Bool} (h : DT X J env e b) (k : b = b') : DT X J env e b' := by rw [← k]; exact h
/-- with the own things frozen -/
theorem ep_cold (h : EP' X J (env.map frz) e P) (t : ∀ d, P d → TupO d) : EP' X J env e P := fun G0 H0 σ H G Q s q => by
  obtain ⟨O, Gf, z⟩ := s.freeze
  refine h G0 H0 σ H Gf Q z.st fun v d G1 H1 u r p => ?_
  obtain ⟨G2, u2, k⟩ := z.back u
  exact q v d G2 H1 u2 (k v d (t d p) r) p
theorem de_cold (h : DE X J (env.map frz) e d) (t : TupO d) : DE X J env e d := ep_cold h fun _ e => by rw [e]; exact t
theorem tp_cold {P : Bool → Prop} (h : TP' X J (env.map frz) e P) : TP' X J env e P := fun G0 H0 σ H G Q s q => by
  obtain ⟨O, Gf, z⟩ := s.freeze
  refine h G0 H0 σ H Gf Q z.st fun b G1 H1 u p => ?_
  obtain ⟨G2, u2, k⟩ := z.back u
  exact q b G2 H1 u2 p
/-! ### names, constants -/
theorem de_var {i : Nat} {n : Str} (he : env[i]? = some (.d d)) (hN : X.N[i]? = some n := by rfl) (hv : Vis X.env.scope n := by first | exact Or.inl rfl | exact Or.inr (Or.inl rfl) | exact Or.inr (Or.inr rfl)) (hd : (n == ("__debug__" : Str)) = false := by decide)
    (hcd : (n == ("__classdict__" : Str)) = false := by decide) : DE X J env (.Name n pos) d := fun G0 H0 σ H G Q s q => by
  obtain ⟨ad, h1, _⟩ := s.sl
  obtain ⟨_, v, e, r⟩ := h1 i _ he
  exact wp_of (pe_var hN hv hd hcd) ⟨v, e, q v d G H (Up.refl s.bs) r rfl⟩
theorem de_c {e : Expr} {v : V} (p : PE X e (tC v)) (r : ∀ G, Is X.K G v d) : DE X J env e d := fun G0 H0 σ H G Q s q => wp_of p (q v d G H (Up.refl s.bs) (r G) rfl)
theorem de_int {i j} : DE X J env (.Constant (.int i) j pos) (.int i) := de_c pe_int fun _ => .int i
theorem de_bl {i j} : DE X J env (.Constant (.bool i) j pos) (.bl i) := de_c pe_bl fun _ => .bl i
theorem de_non {j} : DE X J env (.Constant .none j pos) .non := de_c pe_non fun _ => .non
theorem de_str {i j} : DE X J env (.Constant (.str i) j pos) (.str i) := de_c pe_str fun _ => .str i
/-- a name of the module that holds a text -/
theorem de_gstr {n x : Str} {t : Tok} (hm : X.mg n = some (.str x t)) (hg : Gl X n := by rfl) (hd : (n == ("__debug__" : Str)) = false := by decide) : DE X J env (.Name n pos) (.str x) := de_c (pe_glob (v := .str x) hg hm ⟨t, rfl⟩ hd) fun _ => .str x
/-- .. an object of the written part -/
theorem de_gref {n : Str} {p : Addr} (hm : X.mg n = some (.ref p)) (r : ∀ G, Is X.K G (.ref p) d) (hg : Gl X n := by rfl) (hd : (n == ("__debug__" : Str)) = false := by decide) : DE X J env (.Name n pos) d := de_c (pe_glob (v := .ref p) hg hm rfl hd) r
/-! ### operators -/
/-- what a rule on values does to data -/
def RB (K : PySem.W.Frag) (J : Jn) (r : R2) (P P1 P2 : D → Prop) : Prop := ∀ (v u : V) (d e : D) (G H : Hp) (Q : VK), Bs J G H → Is K G v d → Is K G u e → P d → P1 e →
  (∀ w f G1 H1, Up J G H G1 H1 → Is K G1 w f → P2 f → Q w H1) → r v u H Q
def RU (K : PySem.W.Frag) (J : Jn) (r : V → Hp → VK → Prop) (P P2 : D → Prop) : Prop := ∀ (v : V) (d : D) (G H : Hp) (Q : VK), Bs J G H → Is K G v d → P d →
  (∀ w f G1 H1, Up J G H G1 H1 → Is K G1 w f → P2 f → Q w H1) → r v H Q
def RA (K : PySem.W.Frag) (J : Jn) (r : List V → Hp → VK → Prop) (P : List D → Prop) (P2 : D → Prop) : Prop := ∀ (vs : List V) (ds : List D) (G H : Hp) (Q : VK), Bs J G H → IsAll K G vs ds → P ds →
  (∀ w f G1 H1, Up J G H G1 H1 → Is K G1 w f → P2 f → Q w H1) → r vs H Q
theorem two {r : R2} (ha : EP' X J env a P) (hb : EP' X J env b P1) (hr : RB X.K J r P P1 P2) {G0 H0 : Hp} {σ : L2.St} {H G : Hp} {Q : VK} (s : StG X.K J G0 H0 env σ H G)
    (q : ∀ v d G1 H1, Up J G H G1 H1 → Is X.K G1 v d → P2 d → Q v H1) : tOp r (wpE X a) (wpE X b) σ H Q := by
  refine ha G0 H0 σ H G _ s fun v d G1 H1 u1 r1 p1 => ?_
  refine hb G0 H0 σ H1 G1 _ (s.ext u1) fun u e G2 H2 u2 r2 p2 => ?_
  refine hr v u d e G2 H2 Q ((s.ext u1).ext u2).bs (r1.mono u2.g) r2 p1 p2 fun w f G3 H3 u3 r3 p3 => ?_
  exact q w f G3 H3 ((u1.trans u2).trans u3) r3 p3
theorem ep_op {op : Operator} {r : R2} (ho : OpR X (binaryOp op) r) (hr : RB X.K J r P P1 P2) (ha : EP' X J env a P) (hb : EP' X J env b P1) : EP' X J env (.BinOp a op b pos) P2 := fun _ _ _ _ _ _ s q => wp_of (pe_op ho pe_wp pe_wp) (two ha hb hr s q)
theorem ep_cmp {op : CmpOp} {r : R2} (ho : OpR X (compareOp op) r) (hr : RB X.K J r P P1 P2) (ha : EP' X J env a P) (hb : EP' X J env b P1) (hm : behindInMarks op b = false) : EP' X J env (.Compare a [op] [b] pos) P2 :=
  fun _ _ _ _ _ _ s q => wp_of (pe_cmpR ho pe_wp pe_wp hm) (two ha hb hr s q)
theorem ep_ix {r : R2} (ho : IxR X r) (hr : RB X.K J r P P1 P2) (ha : EP' X J env a P) (hb : EP' X J env b P1) (hs : PlainIx b) : EP' X J env (.Subscript a b pos) P2 :=
  fun _ _ _ _ _ _ s q => wp_of (pe_ix ho pe_wp pe_wp hs) (two ha hb hr s q)
theorem tp_cmp {op : CmpOp} {r : R2} {P2 : Bool → Prop} (ho : OpR X (compareOp op) r) (hr : RB X.K J r P P1 (fun f => ∃ b, f = .bl b ∧ P2 b)) (ha : EP' X J env a P) (hb : EP' X J env b P1) (hm : behindInMarks op b = false) : TP' X J env (.Compare a [op] [b] pos) P2 :=
  fun _ _ _ _ _ _ s q => wpT_of (pt_cmpR ho pe_wp pe_wp hm) (two ha hb hr s fun v d G1 H1 u r p => by
    obtain ⟨c, e, p⟩ := p
    subst e
    exact ⟨c, r.bl_inv, q c G1 H1 u p⟩)
/-- a comparison by its deterministic rule -/
theorem dt_cmp {op : CmpOp} {r : R2} {c : Bool} (ho : OpR X (compareOp op) r) (hr : RB X.K J r (· = x) (· = y) (· = .bl c)) (ha : DE X J env a x) (hb : DE X J env b y) (hm : behindInMarks op b = false) : DT X J env (.Compare a [op] [b] pos) c :=
  tp_cmp ho (fun v u d e G H Q B r1 r2 p1 p2 q => hr v u d e G H Q B r1 r2 p1 p2 fun w f G1 H1 up r p => q w f G1 H1 up r ⟨c, p, rfl⟩) ha hb hm
theorem ep_un {op : UnaryOp} {r : V → Hp → VK → Prop} (ho : UnR X (unaryOp op) r) (hr : RU X.K J r P P2) (ha : EP' X J env a P) : EP' X J env (.UnaryOp op a pos) P2 := fun G0 H0 σ H G Q s q =>
  wp_of (pe_un ho pe_wp) (ha G0 H0 σ H G _ s fun v d G1 H1 u1 r1 p1 => hr v d G1 H1 Q (s.ext u1).bs r1 p1 fun w f G2 H2 u2 r2 p2 => q w f G2 H2 (u1.trans u2) r2 p2)
/-- arguments -/
theorem da_nil : DA X J env [] [] := fun _ _ σ H G Q s q => wpA_of pa_nil (q [] [] G H (Up.refl s.bs) .nil rfl)
theorem ap_cons {Pt P2 : List D → Prop} (ha : EP' X J env e P) (hr : AP' X J env es Pt) (k : ∀ d ds, P d → Pt ds → P2 (d :: ds)) (hs : starEach (e :: es) X.env = (false, eval e X.env) :: starEach es X.env := by rfl) : AP' X J env (e :: es) P2 := fun G0 H0 σ H G Q s q =>
  wpA_of (pa_cons pe_wp pa_wp hs) (ha G0 H0 σ H G _ s fun v d G1 H1 u1 r1 p1 => hr G0 H0 σ H1 G1 _ (s.ext u1) fun vs ds G2 H2 u2 r2 p2 => q (v :: vs) (d :: ds) G2 H2 (u1.trans u2) (.cons (r1.mono u2.g) r2) (k d ds p1 p2))
theorem da_cons {ds : List D} (ha : DE X J env e d) (hr : DA X J env es ds) (hs : starEach (e :: es) X.env = (false, eval e X.env) :: starEach es X.env := by rfl) : DA X J env (e :: es) (d :: ds) := ap_cons ha hr (fun _ _ e1 e2 => by rw [e1, e2]) hs
end
end Sh
/-! Sh2: plain data, typed data, rules on values. -/
namespace Sh
open PySem PySem.Spec PyProof.Rows L2
mutual
inductive Pl : Nat → D → Prop
  | int (n : Nat) (i : Int) : Pl n (.int i)
  | str (n : Nat) (x : Str) : PyData.strOk x = true → Pl n (.str x)
  | lst {n : Nat} {ds : List D} : PlAll n ds → Pl (n + 1) (.lst ds)
  | tup {n : Nat} {ds : List D} : PlAll n ds → Pl (n + 1) (.tup ds)
inductive PlAll : Nat → List D → Prop
  | nil (n : Nat) : PlAll n []
  | cons {n : Nat} {d : D} {ds : List D} : Pl n d → PlAll n ds → PlAll n (d :: ds)
end
mutual
theorem Pl.mono {n m : Nat} (h : n ≤ m) : ∀ {d : D}, Pl n d → Pl m d
  | _, .int _ i => .int m i
  | _, .str _ x k => .str m x k
  | _, .lst a => by
    obtain ⟨m', rfl⟩ : ∃ m', m = m' + 1 := ⟨m - 1, by omega⟩
    exact .lst (PlAll.mono (by omega) a)
  | _, .tup a => by
    obtain ⟨m', rfl⟩ : ∃ m', m = m' + 1 := ⟨m - 1, by omega⟩
    exact .tup (PlAll.mono (by omega) a)
theorem PlAll.mono {n m : Nat} (h : n ≤ m) : ∀ {ds : List D}, PlAll n ds → PlAll m ds
  | _, .nil _ => .nil m
  | _, .cons r t => .cons (Pl.mono h r) (PlAll.mono h t)
end
theorem PlAll.map {α : Type} {n : Nat} {f : α → D} (h : ∀ x, Pl n (f x)) : ∀ xs : List α, PlAll n (xs.map f)
  | [] => .nil n
  | x :: xs => .cons (h x) (PlAll.map h xs)
mutual
def toP : D → PyData
  | .non => .none
  | .bl b => .bool b
  | .int i => .int i
  | .str s => .str s
  | .lst xs => .list (toPs xs)
  | .tup xs => .tuple (toPs xs)
  | .dct _ => .none
  | .raw _ => .none
  | .ptup _ => .none
def toPs : List D → List PyData
  | [] => []
  | x :: xs => toP x :: toPs xs
end
mutual
theorem Pl.can {n : Nat} : ∀ {d : D}, Pl n d → (toP d).canLay0 = true ∧ (toP d).depth ≤ n
  | _, .int _ i => by simp [toP, PyData.canLay0, PyData.depth]
  | _, .str _ x k => by simp [toP, PyData.canLay0, PyData.depth, k]
  | _, .lst a => by
    have q := PlAll.can a
    simp only [toP, PyData.canLay0, PyData.depth]
    exact ⟨q.1, by omega⟩
  | _, .tup a => by
    have q := PlAll.can a
    simp only [toP, PyData.canLay0, PyData.depth]
    exact ⟨q.1, by omega⟩
theorem PlAll.can {n : Nat} : ∀ {ds : List D}, PlAll n ds → PyData.canLayAll0 (toPs ds) = true ∧ PyData.depthAll (toPs ds) ≤ n
  | _, .nil _ => by simp [toPs, PyData.canLayAll0, PyData.depthAll]
  | _, .cons r t => by
    have q := Pl.can r
    have z := PlAll.can t
    simp only [toPs, PyData.canLayAll0, PyData.depthAll, Bool.and_eq_true]
    exact ⟨⟨q.1, z.1⟩, by omega⟩
end
theorem Pl.shaped {n : Nat} {d : D} (h : Pl n d) (hn : n ≤ 64) : SeqAt.shaped (toP d) = true := by
  unfold SeqAt.shaped
  rw [h.can.1, Bool.true_and, decide_eq_true_eq]
  exact Nat.le_trans h.can.2 hn
mutual
theorem Pl.dp {n : Nat} {K : PySem.W.Frag} {G : Hp} : ∀ {d : D}, Pl n d → ∀ {v : V}, Is K G v d → Dp K G v (toP d)
  | _, .int _ i, _, .int _ => .int i
  | _, .str _ x k, _, .str _ => .str x
  | _, .lst a, _, .lst h b => by simp only [toP]; exact .lst (.inl (.inl h)) (PlAll.dp a b)
  | _, .tup a, _, .tup h b => by simp only [toP]; exact .tup h (PlAll.dp a b)
theorem PlAll.dp {n : Nat} {K : PySem.W.Frag} {G : Hp} : ∀ {ds : List D}, PlAll n ds → ∀ {vs : List V}, IsAll K G vs ds → DpAll K G vs (toPs ds)
  | _, .nil _, _, .nil => .nil
  | _, .cons r t, _, .cons q z => .cons (Pl.dp r q) (PlAll.dp t z)
end
mutual
theorem Pl.eqv {n m : Nat} : ∀ {d : D}, Pl n d → ∀ {e : D}, Pl m e → (PyData.eqv (toP d) (toP e) = true ↔ d = e)
  | _, .int _ i, _, .int _ j => by simp [toP, PyData.eqv]
  | _, .int _ i, _, .str _ x _ => by simp [toP, PyData.eqv]
  | _, .int _ i, _, .lst _ => by simp [toP, PyData.eqv]
  | _, .int _ i, _, .tup _ => by simp [toP, PyData.eqv]
  | _, .str _ x _, _, .int _ j => by simp [toP, PyData.eqv]
  | _, .str _ x _, _, .str _ y _ => by simp [toP, PyData.eqv]
  | _, .str _ x _, _, .lst _ => by simp [toP, PyData.eqv]
  | _, .str _ x _, _, .tup _ => by simp [toP, PyData.eqv]
  | _, .lst a, _, .int _ j => by simp [toP, PyData.eqv]
  | _, .lst a, _, .str _ y _ => by simp [toP, PyData.eqv]
  | _, .lst a, _, .lst b => by
    have q := PlAll.eqv a b
    simp only [toP, PyData.eqv, D.lst.injEq]
    exact q
  | _, .lst a, _, .tup b => by simp [toP, PyData.eqv]
  | _, .tup a, _, .int _ j => by simp [toP, PyData.eqv]
  | _, .tup a, _, .str _ y _ => by simp [toP, PyData.eqv]
  | _, .tup a, _, .lst b => by simp [toP, PyData.eqv]
  | _, .tup a, _, .tup b => by
    have q := PlAll.eqv a b
    simp only [toP, PyData.eqv, D.tup.injEq]
    exact q
theorem PlAll.eqv {n m : Nat} : ∀ {ds : List D}, PlAll n ds → ∀ {es : List D}, PlAll m es → (PyData.eqvAll (toPs ds) (toPs es) = true ↔ ds = es)
  | _, .nil _, _, .nil _ => by simp [toPs, PyData.eqvAll]
  | _, .nil _, _, .cons r t => by simp [toPs, PyData.eqvAll]
  | _, .cons r t, _, .nil _ => by simp [toPs, PyData.eqvAll]
  | _, .cons r t, _, .cons r' t' => by
    have q := Pl.eqv r r'
    have z := PlAll.eqv t t'
    simp only [toPs, PyData.eqvAll, Bool.and_eq_true, List.cons.injEq]
    rw [q, z]
end
theorem toPs_any {n m : Nat} {x : D} (hx : Pl n x) : ∀ {ds : List D}, PlAll m ds → (((toPs ds).any fun z => PyData.eqv z (toP x)) = true ↔ x ∈ ds)
  | _, .nil _ => by simp [toPs]
  | _, .cons r t => by
    have q := Pl.eqv r hx
    have z := toPs_any hx t
    simp only [toPs, List.any_cons, Bool.or_eq_true, List.mem_cons]
    rw [q, z]
    constructor
    · rintro (e | e)
      · exact .inl e.symm
      · exact .inr e
    · rintro (e | e)
      · exact .inl e.symm
      · exact .inr e
theorem toPs_get : ∀ {ds : List D} {i : Nat}, (toPs ds)[i]? = (ds[i]?).map toP
  | [], _ => by simp [toPs]
  | d :: ds, 0 => by simp [toPs]
  | d :: ds, i + 1 => by simp [toPs, toPs_get (ds := ds) (i := i)]
theorem bool_iff {b c : Bool} (h : b = true ↔ c = true) : b = c := by
  cases b <;> cases c <;> simp_all

/-! ### typed data -/
class En (α : Type) where
  enc : α → D
  dep : Nat
  pl : ∀ a, Pl dep (enc a)
  tu : ∀ a, TupO (enc a)
  inj : ∀ a b, enc a = enc b → a = b
class EnT (α : Type) where
  fs : α → List D
  dep : Nat
  pl : ∀ a, PlAll dep (fs a)
  tu : ∀ a, TupAll (fs a)
  inj : ∀ a b, fs a = fs b → a = b
open En (enc)
instance : En Int := ⟨.int, 0, fun i => .int 0 i, fun i => .int i, fun _ _ h => D.int.inj h⟩
instance (priority := low) {α : Type} [En α] : EnT α := ⟨fun a => [enc a], En.dep α, fun a => .cons (En.pl a) (.nil _), fun a => .cons (En.tu a) .nil, fun a b h => En.inj a b (List.cons.inj h).1⟩
instance {α β : Type} [En α] [EnT β] : EnT (α × β) := ⟨fun p => enc p.1 :: EnT.fs p.2, max (En.dep α) (EnT.dep β), fun p => .cons ((En.pl p.1).mono (Nat.le_max_left _ _)) ((EnT.pl p.2).mono (Nat.le_max_right _ _)),
  fun p => .cons (En.tu p.1) (EnT.tu p.2), fun p q h => Prod.ext (En.inj _ _ (List.cons.inj h).1) (EnT.inj _ _ (List.cons.inj h).2)⟩
instance {α β : Type} [En α] [EnT β] : En (α × β) := ⟨fun p => .tup (EnT.fs p), EnT.dep (α × β) + 1, fun p => .tup (EnT.pl p), fun p => .tup (EnT.tu p), fun p q h => EnT.inj _ _ (D.tup.inj h)⟩
theorem map_inj {α : Type} {f : α → D} (h : ∀ a b, f a = f b → a = b) : ∀ xs ys : List α, xs.map f = ys.map f → xs = ys
  | [], [], _ => rfl
  | [], _ :: _, e => by cases e
  | _ :: _, [], e => by cases e
  | x :: xs, y :: ys, e => by
    obtain ⟨e1, e2⟩ := List.cons.inj e
    rw [h x y e1, map_inj h xs ys e2]
instance {α : Type} [En α] : En (List α) := ⟨fun xs => .tup (xs.map enc), En.dep α + 1, fun xs => .tup (PlAll.map En.pl xs), fun xs => .tup (TupAll.map En.tu xs), fun xs ys h => map_inj En.inj xs ys (D.tup.inj h)⟩
/-- a list of typed data -/
abbrev encL {α : Type} [En α] (xs : List α) : D := .lst (xs.map enc)
theorem pl_encL {α : Type} [En α] (xs : List α) : Pl (En.dep α + 1) (encL xs) := .lst (PlAll.map En.pl xs)
theorem enc_inj {α : Type} [En α] {a b : α} : enc a = enc b ↔ a = b := ⟨En.inj a b, fun h => by rw [h]⟩
theorem encL_inj {α : Type} [En α] {a b : List α} : encL a = encL b ↔ a = b := ⟨fun h => map_inj En.inj a b (D.lst.inj h), fun h => by rw [h]⟩
theorem mem_enc {α : Type} [En α] {a : α} {xs : List α} : enc a ∈ xs.map enc ↔ a ∈ xs := by
  rw [List.mem_map]
  exact ⟨fun ⟨b, hb, e⟩ => by rw [← En.inj b a e]; exact hb, fun h => ⟨a, h, rfl⟩⟩

/-! ### rules on values -/
section
variable {K : PySem.W.Frag} {J : Jn} {x y : D}
theorem rb_I0 {g : Int → Int → V} {gd : Int → Int → D} {i j : Int} (r : ∀ i j G, Is K G (g i j) (gd i j)) : RB K J (rI0 g) (· = .int i) (· = .int j) (· = gd i j) := fun v u d e G H Q b r1 r2 p1 p2 q => by
  subst p1 p2
  exact ⟨i, j, r1.int_inv, r2.int_inv, q _ _ G H (Up.refl b) (r i j G) rfl⟩
theorem rb_add {i j : Int} : RB K J (rI0 fun i j => .int (i + j)) (· = .int i) (· = .int j) (· = .int (i + j)) := rb_I0 (gd := fun i j => .int (i + j)) fun i j _ => .int _
theorem rb_sub {i j : Int} : RB K J (rI0 fun i j => .int (i - j)) (· = .int i) (· = .int j) (· = .int (i - j)) := rb_I0 (gd := fun i j => .int (i - j)) fun i j _ => .int _
theorem rb_lt {i j : Int} : RB K J (rI0 fun i j => .bl (decide (i < j))) (· = .int i) (· = .int j) (· = .bl (decide (i < j))) := rb_I0 (gd := fun i j => .bl (decide (i < j))) fun i j _ => .bl _
theorem rb_le {i j : Int} : RB K J (rI0 fun i j => .bl (decide (i ≤ j))) (· = .int i) (· = .int j) (· = .bl (decide (i ≤ j))) := rb_I0 (gd := fun i j => .bl (decide (i ≤ j))) fun i j _ => .bl _
theorem rb_gt {i j : Int} : RB K J (rI0 fun i j => .bl (decide (j < i))) (· = .int i) (· = .int j) (· = .bl (decide (j < i))) := rb_I0 (gd := fun i j => .bl (decide (j < i))) fun i j _ => .bl _
theorem rb_ge {i j : Int} : RB K J (rI0 fun i j => .bl (decide (j ≤ i))) (· = .int i) (· = .int j) (· = .bl (decide (j ≤ i))) := rb_I0 (gd := fun i j => .bl (decide (j ≤ i))) fun i j _ => .bl _
theorem rb_eqD {n m : Nat} {c : Bool} (hx : Pl n x) (hy : Pl m y) (hn : n ≤ 64) (hm : m ≤ 64) (hc : c = true ↔ x = y) : RB K J (rEqD K) (· = x) (· = y) (· = .bl c) := fun v u d e G H Q b r1 r2 p1 p2 q => by
  subst p1 p2
  have e1 : PyData.eqv (toP d) (toP e) = c := bool_iff ((hx.eqv hy).trans hc.symm)
  exact ⟨_, _, hx.dp (r1.mono b.gh), hy.dp (r2.mono b.gh), hx.shaped hn, hy.shaped hm, q _ _ G H (Up.refl b) (.bl _) (by rw [e1])⟩
theorem rb_neD {n m : Nat} {c : Bool} (hx : Pl n x) (hy : Pl m y) (hn : n ≤ 64) (hm : m ≤ 64) (hc : c = true ↔ x = y) : RB K J (rNeD K) (· = x) (· = y) (· = .bl (!c)) := fun v u d e G H Q b r1 r2 p1 p2 q => by
  subst p1 p2
  have e1 : PyData.eqv (toP d) (toP e) = c := bool_iff ((hx.eqv hy).trans hc.symm)
  exact ⟨_, _, hx.dp (r1.mono b.gh), hy.dp (r2.mono b.gh), hx.shaped hn, hy.shaped hm, q _ _ G H (Up.refl b) (.bl _) (by rw [e1])⟩
/-- x in a list or tuple of plain data -/
def rInA (K : PySem.W.Frag) (neg : Bool) : R2 := fun x y H Q => ∃ d ds, Dp K H x d ∧ (Dp K H y (.list ds) ∨ Dp K H y (.tuple ds)) ∧ SeqAt.shaped d = true ∧ SeqAt.shaped (.list ds) = true ∧ Q (.bl (if neg then !(ds.any fun z => PyData.eqv z d) else ds.any fun z => PyData.eqv z d)) H
theorem shaped_tl {ds : List PyData} (h : SeqAt.shaped (.list ds) = true) : SeqAt.shaped (.tuple ds) = true := by
  unfold SeqAt.shaped at h ⊢
  simpa [PyData.canLay0, PyData.depth] using h
theorem op_inA {X : Cx} (hu : X.A.units + 65 < cLine) : OpR X (compareOp .In) (rInA X.K false) := by
  intro pins s σ H x y v u Q I rx ry h
  obtain ⟨d, ds, hd, he, sd, se, q⟩ := h
  obtain ⟨as, r1⟩ := Dp.reads I d x v hd rx
  rcases he with he | he
  · obtain ⟨bs, r2⟩ := Dp.reads I (.list ds) y u he ry
    exact SeqAt.in_list_reads r2 r1 (SeqAt.canLay_of_shaped se) (SeqAt.canLay_of_shaped sd) (PyProof.Rows.room_in_shaped sd hu) ⟨.bl _, H, I, rfl, q⟩
  · obtain ⟨bs, r2⟩ := Dp.reads I (.tuple ds) y u he ry
    exact SeqAt.in_tuple_reads r2 r1 (SeqAt.canLay_of_shaped (shaped_tl se)) (SeqAt.canLay_of_shaped sd) (PyProof.Rows.room_in_shaped sd hu) ⟨.bl _, H, I, rfl, q⟩
theorem op_notInA {X : Cx} (hu : X.A.units + 65 < cLine) : OpR X (compareOp .NotIn) (rInA X.K true) := by
  intro pins s σ H x y v u Q I rx ry h
  obtain ⟨d, ds, hd, he, sd, se, q⟩ := h
  obtain ⟨as, r1⟩ := Dp.reads I d x v hd rx
  rcases he with he | he
  · obtain ⟨bs, r2⟩ := Dp.reads I (.list ds) y u he ry
    exact SeqAt.notIn_list_reads r2 r1 (SeqAt.canLay_of_shaped se) (SeqAt.canLay_of_shaped sd) (PyProof.Rows.room_in_shaped sd hu) ⟨.bl _, H, I, rfl, q⟩
  · obtain ⟨bs, r2⟩ := Dp.reads I (.tuple ds) y u he ry
    exact SeqAt.notIn_tuple_reads r2 r1 (SeqAt.canLay_of_shaped (shaped_tl se)) (SeqAt.canLay_of_shaped sd) (PyProof.Rows.room_in_shaped sd hu) ⟨.bl _, H, I, rfl, q⟩
/-- a list or a tuple -/
inductive Sq : D → List D → Prop
  | lst (ds : List D) : Sq (.lst ds) ds
  | tup (ds : List D) : Sq (.tup ds) ds
theorem rb_in {n m : Nat} {c : Bool} {neg : Bool} {ds : List D} (hq : Sq y ds) (hx : Pl n x) (hy : PlAll m ds) (hn : n ≤ 64) (hm : m ≤ 63) (hc : c = true ↔ x ∈ ds) : RB K J (rInA K neg) (· = x) (· = y) (· = .bl (if neg then !c else c)) := fun v u d e G H Q b r1 r2 p1 p2 q => by
  subst p1 p2
  have e1 : ((toPs ds).any fun z => PyData.eqv z (toP d)) = c := bool_iff ((toPs_any hx hy).trans hc.symm)
  have pl : Pl (m + 1) (.lst ds) := .lst hy
  refine ⟨_, toPs ds, hx.dp (r1.mono b.gh), ?_, hx.shaped hn, ?_, q _ _ G H (Up.refl b) (.bl _) (by rw [e1])⟩
  · cases hq with
    | lst => exact .inl (by have z := pl.dp (r2.mono b.gh); simpa only [toP] using z)
    | tup => exact .inr (by have z := (Pl.tup hy).dp (r2.mono b.gh); simpa only [toP] using z)
  · have z := pl.shaped (by omega)
    simpa only [toP] using z
theorem atI_all {G : Hp} {vs : List V} {ds : List D} {i : Int} {d : D} (a : IsAll K G vs ds) (h : atI ds i = some d) : ∃ v, atI vs i = some v ∧ Is K G v d := by
  unfold atI at h ⊢
  rw [a.len]
  cases e : ixN ds.length i with
  | none => rw [e] at h; cases h
  | some j =>
    rw [e] at h
    obtain ⟨v, hv, r⟩ := a.get (i := j) h
    exact ⟨v, hv, r⟩
theorem rb_ixT {ds : List D} {i : Int} {d : D} (h : atI ds i = some d) : RB K J (rIxT K) (· = .tup ds) (· = .int i) (· = d) := fun v u d' e G H Q b r1 r2 p1 p2 q => by
  subst p1 p2
  obtain ⟨a, xs, rfl, ht, al⟩ := r1.tup_inv
  obtain ⟨w, hw, r⟩ := atI_all al h
  exact ⟨a, xs, i, w, rfl, r2.int_inv, sqT_same b.gh ht, hw, q w d G H (Up.refl b) r rfl⟩
theorem rb_ixL {ds : List D} {i : Int} {d : D} (h : atI ds i = some d) : RB K J (rIxL K) (· = .lst ds) (· = .int i) (· = d) := fun v u d' e G H Q b r1 r2 p1 p2 q => by
  subst p1 p2
  obtain ⟨a, xs, rfl, ht, al⟩ := r1.lst_inv
  obtain ⟨w, hw, r⟩ := atI_all al h
  exact ⟨a, xs, i, w, rfl, r2.int_inv, .inl (.inl (b.gh _ _ ht)), hw, q w d G H (Up.refl b) r rfl⟩
theorem isAll_nil {G : Hp} {vs : List V} {ds : List D} (a : IsAll K G vs ds) : vs = [] ↔ ds = [] := by
  cases a with
  | nil => simp
  | cons _ _ => simp
theorem rb_catT {as bs : List D} (hl : as.length + bs.length ≤ sizeLine) : RB K J (rCatA K) (· = .tup as) (· = .tup bs) (· = .tup (as ++ bs)) := fun v u d e G H Q b r1 r2 p1 p2 q => by
  subst p1 p2
  obtain ⟨a, xs, rfl, h1, a1⟩ := r1.tup_inv
  obtain ⟨c, ys, rfl, h2, a2⟩ := r2.tup_inv
  refine ⟨a, c, xs, ys, rfl, rfl, sqT_same b.gh h1, sqT_same b.gh h2, by rw [a1.len, a2.len]; exact hl, fun e => ?_, fun _ e => ?_, fun _ _ p hp => ?_⟩
  · have z := (isAll_nil a1).mp e
    subst z
    exact q _ _ G H (Up.refl b) r2 rfl
  · have z := (isAll_nil a2).mp e
    subst z
    exact q _ _ G H (Up.refl b) r1 (by rw [List.append_nil])
  · have u := Up.new b (o := .tup (xs ++ ys)) hp
    exact q _ _ _ _ u (.tup (.inl (.inl upd_same)) ((a1.append a2).mono u.g)) rfl
theorem rb_catL {as bs : List D} (hl : as.length + bs.length ≤ sizeLine) : RB K J rCat (· = .lst as) (· = .lst bs) (· = .lst (as ++ bs)) := fun v u d e G H Q b r1 r2 p1 p2 q => by
  subst p1 p2
  obtain ⟨a, xs, rfl, h1, a1⟩ := r1.lst_inv
  obtain ⟨c, ys, rfl, h2, a2⟩ := r2.lst_inv
  refine ⟨a, c, xs, ys, rfl, rfl, b.gh _ _ h1, b.gh _ _ h2, by rw [a1.len, a2.len]; exact hl, fun p hp => ?_⟩
  have u := Up.new b (o := .lst (xs ++ ys)) hp
  exact q _ _ _ _ u (.lst upd_same ((a1.append a2).mono u.g)) rfl
end
end Sh
/-! Sh3: sources, targets, comprehensions. -/
namespace Sh
open PySem PySem.Spec PyProof.Rows L2
open En (enc)
theorem Up.mut {J : Jn} {G H G1 H1 : Hp} (u : Up J G H G1 H1) (b : Bs J G H) {p : Addr} {o : HO} (hp : H p = none) (hg : G1 p = none) : Up J G H G1 (upd H1 p o) := by
  refine ⟨u.g, fun a x e => ?_, fun a x m e => ?_, fun a n => ?_, u.hid, J.st _ _ u.inv fun a m => ?_⟩
  · rw [upd_ne (ne_of_none e hg)]; exact u.gh a x e
  · rw [upd_ne (ne_of_none e hp)]; exact u.h a x m e
  · by_cases q : a = p
    · rw [q, upd_same]; simp
    · rw [upd_ne q]; exact u.fr a n
  · exact upd_ne fun q => (b.al a m).1 (by rw [q]; exact hp)
/-- what was hidden becomes data -/
theorem Up.show {J : Jn} {G H G1 H1 : Hp} (u : Up J G H G1 H1) {p : Addr} {o : HO} (hp : H p = none) (hg : G1 p = none) (h1 : H1 p = some o) : Up J G H (upd G1 p o) H1 := by
  refine ⟨u.g.trans fun a x e => ?_, fun a x e => ?_, u.h, u.fr, fun a n n2 => ?_, u.inv⟩
  · rw [upd_ne (ne_of_none e hg)]; exact e
  · by_cases q : a = p
    · rw [q, upd_same] at e; rw [q, h1]; exact e
    · rw [upd_ne q] at e; exact u.gh a x e
  · rw [upd_ne fun q => n2 (by rw [q]; exact hp)]; exact u.hid a n n2

/-! ### sources -/
structure ItOk (K : PySem.W.Frag) (J : Jn) (T : It) (ds : List D) (G : Hp) : Prop where
  go : ∀ i H' G', Same G G' → Bs J G' H' → i < ds.length → T.go i H'
  yld : ∀ i H' G' x H'', Same G G' → Bs J G' H' → i < ds.length → T.yld i H' x H'' → ∃ G'' d, Up J G' H' G'' H'' ∧ ds[i]? = some d ∧ Is K G'' x d
  stop : ∀ i H' G', Same G G' → Bs J G' H' → i = ds.length → T.stop i H'
abbrev wpI (X : Cx) (tg iter : Expr) : TI := fun σ H R => ∀ pins s, Inv X pins σ H s → wpAny (model X.prog X.w) X.A (eval iter X.env) (fun v s1 => wpAny (model X.prog X.w) X.A (pyIter v) (PIE X pins σ tg R) X.xe s1) X.xe s
theorem pi_wp {X : Cx} {tg iter : Expr} : PI X tg iter (wpI X tg iter) := ⟨fun pins s _ _ _ I h => h pins s I⟩
def IP' (X : Cx) (J : Jn) (env : List SL) (tg iter : Expr) (P : List D → Prop) : Prop := ∀ (G0 H0 : Hp) (σ : L2.St) (H G : Hp) (R : It → Hp → Prop), StG X.K J G0 H0 env σ H G →
  (∀ T ds G1 H1, Up J G H G1 H1 → ItOk X.K J T ds G1 → P ds → R T H1) → wpI X tg iter σ H R
abbrev DI (X : Cx) (J : Jn) (env : List SL) (tg iter : Expr) (ds : List D) : Prop := IP' X J env tg iter (fun x => x = ds)
theorem ItOk.list {K : PySem.W.Frag} {J : Jn} {G : Hp} {a : Addr} {xs : List V} {ds : List D} (h : G a = some (.lst xs)) (al : IsAll K G xs ds) : ItOk K J (Itl K a) ds G where
  go := fun i H' G' e b hi => ⟨xs, xs[i]'(by rw [al.len]; exact hi), .inl (.inl (b.gh _ _ (e _ _ h))), List.getElem?_eq_getElem _⟩
  yld := fun i H' G' x H'' e b hi y => by
    obtain ⟨rfl, y⟩ := y
    obtain ⟨d, hd, r⟩ := al.get' (y xs (.inl (.inl (b.gh _ _ (e _ _ h)))))
    exact ⟨G', d, Up.refl b, hd, r.mono e⟩
  stop := fun i H' G' e b hi => ⟨xs, .inl (.inl (b.gh _ _ (e _ _ h))), by rw [al.len]; exact Nat.le_of_eq hi.symm⟩
theorem ItOk.tuple {K : PySem.W.Frag} {J : Jn} {G : Hp} {a : Addr} {xs : List V} {ds : List D} (h : SqT K G a xs) (al : IsAll K G xs ds) : ItOk K J (Itt K a) ds G where
  go := fun i H' G' e b hi => ⟨xs, xs[i]'(by rw [al.len]; exact hi), sqT_same b.gh (sqT_same e h), List.getElem?_eq_getElem _⟩
  yld := fun i H' G' x H'' e b hi y => by
    obtain ⟨rfl, y⟩ := y
    obtain ⟨d, hd, r⟩ := al.get' (y xs (sqT_same b.gh (sqT_same e h)))
    exact ⟨G', d, Up.refl b, hd, r.mono e⟩
  stop := fun i H' G' e b hi => ⟨xs, sqT_same b.gh (sqT_same e h), by rw [al.len]; exact Nat.le_of_eq hi.symm⟩
section
variable {X : Cx} {J : Jn} {env : List SL} {tg iter e : Expr} {es : List Expr} {pos p : Pos}
theorem di_tup {ds : List D} (h : DE X J env e (.tup ds)) : DI X J env tg e ds := fun G0 H0 σ H G R s q pins st I => by
  refine (pi_tup (X := X) (tg := tg) pe_wp).run pins st σ H R I ?_
  refine h G0 H0 σ H G _ s fun v d G1 H1 u r p => ?_
  subst p
  obtain ⟨a, xs, rfl, ht, al⟩ := r.tup_inv
  exact ⟨a, rfl, ⟨xs, sqT_same u.gh ht⟩, q _ _ G1 H1 u (ItOk.tuple ht al) rfl⟩
theorem di_lst {ds : List D} (h : DE X J env e (.lst ds)) : DI X J env tg e ds := fun G0 H0 σ H G R s q pins st I => by
  refine (pi_list (X := X) (tg := tg) pe_wp).run pins st σ H R I ?_
  refine h G0 H0 σ H G _ s fun v d G1 H1 u r p => ?_
  subst p
  obtain ⟨a, xs, rfl, ht, al⟩ := r.lst_inv
  exact ⟨a, rfl, ⟨xs, .inl (.inl (u.gh _ _ ht))⟩, q _ _ G1 H1 u (ItOk.list ht al) rfl⟩
def chs (x : Str) : List D := x.cps.toList.map fun c => .str ⟨#[c]⟩
theorem di_str {x : Str} (h : DE X J env e (.str x)) : DI X J env tg e (chs x) := fun G0 H0 σ H G R s q pins st I => by
  refine (pi_str (X := X) (tg := tg) pe_wp).run pins st σ H R I ?_
  refine h G0 H0 σ H G _ s fun v d G1 H1 u r p => ?_
  subst p
  have hl : (chs x).length = x.cps.size := by unfold chs; rw [List.length_map, Array.length_toList]
  refine ⟨x, r.str_inv, q _ _ G1 H1 u ⟨fun i _ _ _ _ hi => by rw [hl] at hi; exact hi, fun i H' G' v H'' e b hi y => ?_, fun i _ _ _ _ hi => by rw [hl] at hi; exact Nat.le_of_eq hi.symm⟩ rfl⟩
  obtain ⟨rfl, c, hc, rfl⟩ := y
  refine ⟨G', .str ⟨#[c]⟩, Up.refl b, ?_, .str _⟩
  unfold chs
  rw [List.getElem?_map, Array.getElem?_toList, hc]
  rfl
def rng (lo : Int) (n : Nat) : List D := (List.range n).map fun i => .int (lo + (i : Nat))
theorem ItOk.range {K : PySem.W.Frag} {G : Hp} {lo : Int} {n : Nat} : ItOk K J (Itr lo n) (rng lo n) G where
  go := fun i _ _ _ _ hi => by
    show i < n
    unfold rng at hi; simpa using hi
  yld := fun i H' G' x H'' e b hi y => by
    obtain ⟨rfl, rfl⟩ := y
    have hi' : i < n := by unfold rng at hi; simpa using hi
    refine ⟨G', .int (lo + (i : Nat)), Up.refl b, ?_, .int _⟩
    unfold rng
    rw [List.getElem?_map, List.getElem?_range hi']
    rfl
  stop := fun i _ _ _ _ hi => by
    show n ≤ i
    have hi2 : i = n := by unfold rng at hi; simpa using hi
    exact Nat.le_of_eq hi2.symm
/-- range(n) -/
theorem ip_range1 {Pn : Int → Prop} {P : List D → Prop} (hm : X.mg "range" = none) (h : EP' X J env e (fun d => ∃ k, d = .int k ∧ Pn k)) (hb : ∀ k, Pn k → -(2 ^ 62) ≤ k ∧ k < 2 ^ 62 ∧ P (rng 0 k.toNat)) (hg : Gl X "range" := by rfl)
    (hs : starEach [e] X.env = [(false, eval e X.env)] := by rfl) : IP' X J env tg (.Call (.Name "range" p) [e] [] pos) P := fun G0 H0 σ H G R s q pins st I => by
  refine (pi_range1 (X := X) (tg := tg) hg hm (pa_cons pe_wp pa_nil (by exact hs)) hs).run pins st σ H R I ?_
  refine h G0 H0 σ H G _ s fun v d G1 H1 u r pd => ?_
  obtain ⟨k, rfl, pk⟩ := pd
  obtain ⟨b1, b2, b3⟩ := hb k pk
  exact ⟨k, by rw [r.int_inv], b1, b2, q _ _ G1 H1 u ItOk.range b3⟩
theorem di_range1 {k : Int} (hm : X.mg "range" = none) (h : DE X J env e (.int k)) (h1 : -(2 ^ 62) ≤ k) (h2 : k < 2 ^ 62) (hg : Gl X "range" := by rfl) (hs : starEach [e] X.env = [(false, eval e X.env)] := by rfl) : DI X J env tg (.Call (.Name "range" p) [e] [] pos) (rng 0 k.toNat) :=
  ip_range1 (Pn := fun x => x = k) hm (h.imp fun d e => ⟨k, e, rfl⟩) (fun x e => by rw [e]; exact ⟨h1, h2, rfl⟩) hg hs
theorem ip_range2 {a b : Expr} {lo hi : Int} (hm : X.mg "range" = none) (h1 : DE X J env a (.int lo)) (h2 : DE X J env b (.int hi)) (hb : -(2 ^ 62) ≤ lo ∧ lo < 2 ^ 62 ∧ -(2 ^ 62) ≤ hi ∧ hi < 2 ^ 62) (hg : Gl X "range" := by rfl)
    (hs : starEach [a, b] X.env = [(false, eval a X.env), (false, eval b X.env)] := by rfl) (hs2 : starEach [b] X.env = [(false, eval b X.env)] := by rfl) : DI X J env tg (.Call (.Name "range" p) [a, b] [] pos) (rng lo (hi - lo).toNat) := fun G0 H0 σ H G R s q pins st I => by
  refine (pi_range2 (X := X) (tg := tg) hg hm (pa_cons pe_wp (pa_cons pe_wp pa_nil (by exact hs2)) (by rw [hs, hs2])) hs hs2).run pins st σ H R I ?_
  refine h1 G0 H0 σ H G _ s fun v d G1 H1 u1 r1 p1 => ?_
  refine h2 G0 H0 σ H1 G1 _ (s.ext u1) fun v2 d2 G2 H2 u2 r2 p2 => ?_
  subst p1 p2
  exact ⟨lo, hi, by rw [r1.int_inv, r2.int_inv], hb, q _ _ G2 H2 (u1.trans u2) ItOk.range rfl⟩
end

/-! ### targets -/
inductive Tgt where
  | nm (i : Nat)
  | tp (is : List Nat)
def gNames : List Nat → TGs
  | [] => gNil
  | i :: is => gCons (gName i) (gNames is)
def Tgt.g (K : PySem.W.Frag) : Tgt → TG
  | .nm i => gName i
  | .tp is => gTup K is.length (gNames is)
def Tgt.slots : Tgt → List Nat
  | .nm i => [i]
  | .tp is => is
def setAll : List SL → List Nat → List D → List SL
  | env, i :: is, d :: ds => setAll (env.set i (.d d)) is ds
  | env, _, _ => env
/-- the slots behind a store of d -/
inductive TSt : Tgt → D → List SL → List SL → Prop
  | nm (i : Nat) (d : D) (env : List SL) : TSt (.nm i) d env (env.set i (.d d))
  | tp (is : List Nat) (ds : List D) (env : List SL) (h : ds.length = is.length) : TSt (.tp is) (.tup ds) env (setAll env is ds)
section
variable {K : PySem.W.Frag} {J : Jn} {G0 H0 G H G1 H1 : Hp} {env env' : List SL} {σ : L2.St}
theorem wipe_ix {vs : List Nat} {k : Nat} : (wipe σ vs)[k]? = if k ∈ vs ∧ k < σ.length then some none else σ[k]? := by
  induction vs with
  | nil => simp [wipe]
  | cons v vs ih =>
    show ((wipe σ vs).set v none)[k]? = _
    by_cases e : v = k
    · subst e
      by_cases hl : v < σ.length
      · rw [List.getElem?_set_self (by rw [wipe_length]; exact hl), if_pos ⟨List.mem_cons_self, hl⟩]
      · rw [List.getElem?_eq_none (by rw [List.length_set, wipe_length]; omega), if_neg (fun z => hl z.2), List.getElem?_eq_none (by omega)]
    · rw [List.getElem?_set_ne e, ih]
      have : (k ∈ v :: vs ∧ k < σ.length) ↔ (k ∈ vs ∧ k < σ.length) := by
        constructor
        · rintro ⟨h, h2⟩
          rcases List.mem_cons.mp h with z | z
          · exact absurd z.symm e
          · exact ⟨z, h2⟩
        · rintro ⟨h, h2⟩
          exact ⟨List.mem_cons_of_mem _ h, h2⟩
      by_cases c : k ∈ vs ∧ k < σ.length
      · rw [if_pos c, if_pos (this.mpr c)]
      · rw [if_neg c, if_neg (fun z => c (this.mp z))]
theorem wipe_set {vs : List Nat} {i : Nat} {x : Option V} (h : i ∈ vs) : wipe (σ.set i x) vs = wipe σ vs := by
  apply List.ext_getElem?
  intro k
  rw [wipe_ix, wipe_ix, List.length_set]
  by_cases c : k ∈ vs ∧ k < σ.length
  · rw [if_pos c, if_pos c]
  · rw [if_neg c, if_neg c]
    by_cases e : i = k
    · subst e
      have : ¬ i < σ.length := fun z => c ⟨h, z⟩
      rw [List.set_eq_of_length_le (by omega)]
    · rw [List.getElem?_set_ne e]
theorem wipe_wipe {vs : List Nat} : wipe (wipe σ vs) vs = wipe σ vs := by
  apply List.ext_getElem?
  intro k
  rw [wipe_ix, wipe_length, wipe_ix]
  by_cases c : k ∈ vs ∧ k < σ.length
  · rw [if_pos c, if_pos c]
  · rw [if_neg c, if_neg c]
def wipeE (env : List SL) : List Nat → List SL
  | [] => env
  | v :: vs => (wipeE env vs).set v .no
theorem StG.setNone (s : StG K J G0 H0 env σ H G) (i : Nat) : StG K J G0 H0 (env.set i .no) (σ.set i none) H G := by
  obtain ⟨ad, h1, h2, h3⟩ := s.sl
  refine ⟨s.up, s.al0, by rw [List.length_set, List.length_set]; exact s.len, Sh.put ad i [], fun j sl e => ?_, fun j k a n m1 m2 => ?_, fun j hj => ?_⟩
  · by_cases q : j = i
    · subst q
      have hl : j < env.length := by
        have z := (List.getElem?_eq_some_iff.mp e).1
        rwa [List.length_set] at z
      rw [List.getElem?_set_self hl] at e
      cases e
      rw [put_same]
      rfl
    · rw [List.getElem?_set_ne (Ne.symm q)] at e
      rw [put_ne q, List.getElem?_set_ne (Ne.symm q)]
      exact h1 j sl e
  · by_cases q : j = i
    · subst q; rw [put_same] at m1; cases m1
    · by_cases q2 : k = i
      · subst q2; rw [put_same] at m2; cases m2
      · rw [put_ne q] at m1; rw [put_ne q2] at m2; exact h2 j k a n m1 m2
  · rw [List.length_set] at hj
    by_cases q : j = i
    · rw [q, put_same]
    · rw [put_ne q]; exact h3 j hj
theorem StG.wipe (s : StG K J G0 H0 env σ H G) : ∀ vs : List Nat, StG K J G0 H0 (wipeE env vs) (L2.wipe σ vs) H G
  | [] => s
  | v :: vs => (StG.wipe s vs).setNone v
theorem names_run : ∀ (is : List Nat) (ds : List D) (vs : List V) (env : List SL) (σ : L2.St) (Q : L2.St → Hp → Prop), StG K J G0 H0 env σ H G → IsAll K G vs ds → ds.length = is.length →
    (∀ σ', (∀ ws : List Nat, (∀ i ∈ is, i ∈ ws) → L2.wipe σ' ws = L2.wipe σ ws) → StG K J G0 H0 (setAll env is ds) σ' H G → Q σ' H) → gNames is vs σ H Q
  | [], [], _, env, σ, Q, s, .nil, _, q => ⟨rfl, q σ (fun _ _ => rfl) s⟩
  | [], _ :: _, _, _, _, _, _, _, e, _ => by cases e
  | _ :: _, [], _, _, _, _, _, _, e, _ => by cases e
  | i :: is, d :: ds, _, env, σ, Q, s, .cons (v := v) (vs := vs) r rs, e, q => by
    refine ⟨v, vs, rfl, ?_⟩
    refine names_run is ds vs (env.set i (.d d)) (σ.set i (some v)) Q (s.setD i r) rs (by simpa using e) fun σ' w s' => q σ' (fun ws hw => ?_) s'
    rw [w ws fun j hj => hw j (List.mem_cons_of_mem _ hj), wipe_set (hw i List.mem_cons_self)]
theorem tgt_run {t : Tgt} {d : D} {v : V} {Q : L2.St → Hp → Prop} (s : StG K J G0 H0 env σ H G) (r : Is K G v d) (h : TSt t d env env')
    (q : ∀ σ', (∀ ws : List Nat, (∀ i ∈ t.slots, i ∈ ws) → L2.wipe σ' ws = L2.wipe σ ws) → StG K J G0 H0 env' σ' H G → Q σ' H) : t.g K v σ H Q := by
  cases h with
  | nm i => exact q _ (fun ws hw => wipe_set (hw i (List.mem_singleton.mpr rfl))) (s.setD i r)
  | tp is ds _ hl =>
    obtain ⟨a, xs, rfl, ht, al⟩ := r.tup_inv
    exact ⟨a, xs, rfl, sqT_same s.bs.gh ht, by rw [al.len, hl], names_run is ds xs env σ Q s al hl q⟩
end

/-! ### a new list -/
def FE' (X : Cx) (J : Jn) (env : List SL) (e : Expr) (P : List D → Prop) : Prop := ∀ (G0 H0 : Hp) (σ : L2.St) (H G : Hp) (Q : VK), StG X.K J G0 H0 env σ H G →
  (∀ p vs ds G1 H1, Up J G H G1 H1 → H p = none → G1 p = none → H1 p = some (.lst vs) → IsAll X.K G1 vs ds → P ds → Q (.ref p) H1) → wpE X e σ H Q
abbrev DF (X : Cx) (J : Jn) (env : List SL) (e : Expr) (ds : List D) : Prop := FE' X J env e (fun x => x = ds)
theorem ep_fe {X : Cx} {J : Jn} {env : List SL} {e : Expr} {P : List D → Prop} {P2 : D → Prop} (h : FE' X J env e P) (k : ∀ ds, P ds → P2 (.lst ds)) : EP' X J env e P2 := fun G0 H0 σ H G Q s q =>
  h G0 H0 σ H G Q s fun p vs ds G1 H1 u hp hg h1 al pd => by
    have u2 := u.show hp hg h1
    exact q _ (.lst ds) (upd G1 p (.lst vs)) H1 u2 (.lst upd_same (al.mono fun a o e => by rw [upd_ne (ne_of_none e hg)]; exact e)) (k ds pd)
theorem de_fe {X : Cx} {J : Jn} {env : List SL} {e : Expr} {ds : List D} (h : DF X J env e ds) : DE X J env e (.lst ds) := ep_fe h fun _ e => by rw [e]
abbrev wpTs (X : Cx) (ifs : List Expr) : TT := fun σ H Q => ∀ pins s, Inv X pins σ H s →
  wpAny (model X.prog X.w) X.A (forIn ifs true fun c r => if r = true then do let ok ← isTrue c X.env (eval c X.env); pure (ForInStep.yield ok) else pure (ForInStep.yield r)) (TP X pins σ Q) X.xe s
theorem pts_wp {X : Cx} {ifs : List Expr} : PTs X ifs (wpTs X ifs) := ⟨fun pins s _ _ _ I h => h pins s I⟩
abbrev DTs (X : Cx) (J : Jn) (env : List SL) (ifs : List Expr) (b : Bool) : Prop := ∀ (G0 H0 : Hp) (σ : L2.St) (H G : Hp) (Q : Bool → Hp → Prop), StG X.K J G0 H0 env σ H G →
  (∀ G1 H1, Up J G H G1 H1 → Q b H1) → wpTs X ifs σ H Q
theorem dts_nil {X : Cx} {J : Jn} {env : List SL} : DTs X J env [] true := fun _ _ σ H G Q s q pins st I => pts_nil.run pins st σ H Q I (q G H (Up.refl s.bs))
theorem dts_one {X : Cx} {J : Jn} {env : List SL} {c : Expr} {b : Bool} (h : DT X J env c b) : DTs X J env [c] b := fun G0 H0 σ H G Q s q pins st I => (pts_one (X := X) pt_wp).run pins st σ H Q I (h G0 H0 σ H G Q s fun b' G1 H1 u e => by rw [e]; exact q G1 H1 u)
abbrev blkX (X : Cx) (scope : Scope) (P : Cx → Prop) : Prop := ∀ (s : Shared) (H : Hp) (C : Addr) (cl : List (Str × Addr)) (fp : List Addr), P (X.blk s H scope (compEnvC scope cl C X.env) fp)
theorem take_succ_of {α : Type} {xs : List α} {i : Nat} {x : α} (h : xs[i]? = some x) : xs.take (i + 1) = xs.take i ++ [x] := by rw [List.take_succ, h]; rfl
end Sh
/-! Sh4: comprehensions. -/
namespace Sh
open PySem PySem.Spec PyProof.Rows L2
open En (enc)
section
variable {X : Cx} {J : Jn} {env : List SL} {elt tg iter : Expr} {ifs : List Expr} {scope : Scope} {own : List (Str × Nat)} {pos : Pos} {t : Tgt}
/-- the readings, uniform over the block's contexts -/
def ttB (X : Cx) (ifs : List Expr) (scope : Scope) : TT := fun σ H Q => ∀ (s : Shared) (H2 : Hp) (C : Addr) (cl : List (Str × Addr)) (fp : List Addr), wpTs (X.blk s H2 scope (compEnvC scope cl C X.env) fp) ifs σ H Q
def teB (X : Cx) (elt : Expr) (scope : Scope) : TE := fun σ H Q => ∀ (s : Shared) (H2 : Hp) (C : Addr) (cl : List (Str × Addr)) (fp : List Addr), wpE (X.blk s H2 scope (compEnvC scope cl C X.env) fp) elt σ H Q
theorem lc_read {α : Type} {xs : List α} {f : α → D} {p : α → Bool} {g : α → D} {env' : α → List SL} (hi : DI X J env tg iter (xs.map f)) (hsl : ∀ i ∈ t.slots, i ∈ own.map (·.2))
    (he' : ∀ x, TSt t (f x) (wipeE env (own.map (·.2))) (env' x)) (ht : blkX X scope fun X' => ∀ x ∈ xs, DTs X' J (env' x) ifs (p x)) (hel : blkX X scope fun X' => ∀ x ∈ xs, p x = true → DE X' J (env' x) elt (g x))
    (hl : xs.length < sizeLine) {G0 H0 : Hp} {σ : L2.St} {H G : Hp} {Q : VK} (s : StG X.K J G0 H0 env σ H G)
    (q : ∀ p' vs ds G1 H1, Up J G H G1 H1 → H p' = none → G1 p' = none → H1 p' = some (.lst vs) → IsAll X.K G1 vs ds → ds = (xs.filter p).map g → Q (.ref p') H1) :
    tLc (wpI X tg iter) (t.g X.K) (ttB X ifs scope) (teB X elt scope) (own.map (·.2)) σ H Q := by
  refine hi G0 H0 σ H G _ s fun T ds G1 H1 u1 it eds => ?_
  subst eds
  intro D hD
  have s1 := s.ext u1
  have b1 := s1.bs
  have hHD : H D = none := by
    cases z : H D with
    | none => rfl
    | some o => exact absurd hD (u1.fr D (by rw [z]; simp))
  have hGD : G1 D = none := b1.gh.free hD
  refine ⟨fun i m H' => m = xs.length - i ∧ i ≤ xs.length ∧ ∃ G' vs, Up J G1 H1 G' H' ∧ G' D = none ∧ H' D = some (.lst vs) ∧ IsAll X.K G' vs (((xs.take i).filter p).map g), ⟨_, rfl, Nat.zero_le _, G1, [], Up.newH b1 hD, hGD, upd_same, .nil⟩, ?_⟩
  rintro i m H' ⟨rfl, hi', G', vs, u, gd, hd, al⟩
  have b' := b1.up u
  have s' := s1.ext u
  by_cases hlt : i < xs.length
  · right
    have hx : xs[i]? = some xs[i] := List.getElem?_eq_getElem hlt
    refine ⟨it.go i H' G' u.g b' (by rw [List.length_map]; exact hlt), fun H'' => ∃ G'' vs, Up J G1 H1 G'' H'' ∧ G'' D = none ∧ H'' D = some (.lst vs) ∧ IsAll X.K G'' vs (((xs.take (i + 1)).filter p).map g), fun H'' z => ⟨_, by omega, rfl, hlt, z⟩, fun x H2 hy => ?_⟩
    obtain ⟨G2, d, u2, ed, r⟩ := it.yld i H' G' x H2 u.g b' (by rw [List.length_map]; exact hlt) hy
    rw [List.getElem?_map, hx] at ed
    cases ed
    have s2 := (s'.ext u2).wipe (own.map (·.2))
    refine tgt_run s2 r (he' xs[i]) fun σ2 hw s3 => ⟨?_, ?_⟩
    · rw [hw _ hsl, wipe_wipe]
    · intro sh Hh C cl fp
      refine ht sh Hh C cl fp xs[i] (List.getElem_mem hlt) G0 H0 σ2 H2 G2 _ s3 fun G3 H3 u3 => ?_
      have u13 : Up J G1 H1 G3 H3 := (u.trans u2).trans u3
      have live : H' D ≠ none := by rw [hd]; simp
      have nm : ¬ J.M D := fun m => (b1.al D m).1 hD
      have hd3 : H3 D = some (.lst vs) := u3.h D _ nm (u2.h D _ nm hd)
      have gd3 : G3 D = none := u3.hid D (u2.hid D gd live) (u2.fr D live)
      by_cases hp : p xs[i] = true
      · rw [if_pos hp]
        intro sh Hh C cl fp
        refine hel sh Hh C cl fp xs[i] (List.getElem_mem hlt) hp G0 H0 σ2 H3 G3 _ (s3.ext u3) fun v d G4 H4 u4 r4 e4 => ?_
        subst e4
        have hd4 : H4 D = some (.lst vs) := u4.h D _ nm hd3
        have gd4 : G4 D = none := u4.hid D gd3 (by rw [hd3]; simp)
        have al4 := ((al.mono u2.g).mono u3.g).mono u4.g
        have hlen : vs.length < sizeLine := by
          rw [al.len, List.length_map]
          exact Nat.lt_of_le_of_lt (Nat.le_trans (List.length_filter_le _ _) (by rw [List.length_take]; omega)) hl
        refine ⟨vs, hd4, hlen, G4, vs ++ [v], (u13.trans u4).mut b1 hD gd4, gd4, upd_same, ?_⟩
        rw [take_succ_of hx, List.filter_append, List.map_append, List.filter_cons_of_pos (by exact hp)]
        exact al4.append (.cons r4 .nil)
      · rw [if_neg hp]
        refine ⟨G3, vs, u13, gd3, hd3, ?_⟩
        rw [take_succ_of hx, List.filter_append, List.map_append, List.filter_cons_of_neg (by exact hp)]
        simpa using (al.mono u2.g).mono u3.g
  · left
    have e : i = xs.length := by omega
    subst e
    rw [List.take_length] at al
    exact ⟨it.stop _ H' G' u.g b' (by rw [List.length_map]), q D vs _ G' H' (u1.trans u) hHD gd hd al rfl⟩
/-- [elt for tg in iter if ..] -/
theorem df_lc {α : Type} {xs : List α} {f : α → D} {p : α → Bool} {g : α → D} {env' : α → List SL} (hi : DI X J env tg iter (xs.map f)) (hc : X.calm = true) (hN : X.N.Nodup) (ok : BlkOk X.N X.env.scope scope own) (hsl : ∀ i ∈ t.slots, i ∈ own.map (·.2))
    (hg : blkX X scope fun X' => PG X' tg (t.g X'.K)) (he' : ∀ x, TSt t (f x) (wipeE env (own.map (·.2))) (env' x)) (ht : blkX X scope fun X' => ∀ x ∈ xs, DTs X' J (env' x) ifs (p x)) (hel : blkX X scope fun X' => ∀ x ∈ xs, p x = true → DE X' J (env' x) elt (g x))
    (hl : xs.length < sizeLine) (hs : ∀ x, foldedSetIterable iter X.env x = pure x := by intro _; rfl) : DF X J env (.ListComp elt [⟨tg, iter, ifs, 0⟩] scope pos) ((xs.filter p).map g) := fun G0 H0 σ H G Q s q =>
  wp_of (pe_lc (wi := wpI X tg iter) (g := t.g X.K) (tt := ttB X ifs scope) (te := teB X elt scope) hc hN pi_wp ok hg (fun s' H' C cl fp => ⟨fun pins st σ H Q I h => h s' H' C cl fp pins st I⟩) (fun s' H' C cl fp => ⟨fun pins st σ H Q I h => h s' H' C cl fp pins st I⟩) hs)
    (lc_read hi hsl he' ht hel hl s q)
/-- name = [elt for tg in iter if ..] on one line -/
theorem dsw_lc_wp {α : Type} {xs : List α} {f : α → D} {p : α → Bool} {g : α → D} {env' : α → List SL} {i : Nat} {y : Str} {py spos : Pos} (hy : X.N[i]? = some y) (hyl : X.env.scope.names.lookup y = some .local) (hsw : swapsWith (.ListComp elt [⟨tg, iter, ifs, 0⟩] scope pos) (some (.Name y py)) spos.line X.env = pure true)
    (hi : DI X J env tg iter (xs.map f)) (hc : X.calm = true) (hN : X.N.Nodup) (ok : BlkOk X.N X.env.scope scope own) (hsl : ∀ i ∈ t.slots, i ∈ own.map (·.2))
    (hg : blkX X scope fun X' => PG X' tg (t.g X'.K)) (he' : ∀ x, TSt t (f x) (wipeE env (own.map (·.2))) (env' x)) (ht : blkX X scope fun X' => ∀ x ∈ xs, DTs X' J (env' x) ifs (p x)) (hel : blkX X scope fun X' => ∀ x ∈ xs, p x = true → DE X' J (env' x) elt (g x))
    (hl : xs.length < sizeLine) (hs : ∀ x, foldedSetIterable iter X.env x = pure x) {G0 H0 : Hp} {σ : L2.St} {H G : Hp} {En : Ends} (s : StG X.K J G0 H0 env σ H G)
    (q : ∀ p' vs ds G1 H1, Up J G H G1 H1 → H p' = none → G1 p' = none → H1 p' = some (.lst vs) → IsAll X.K G1 vs ds → ds = (xs.filter p).map g → En.nx (σ.set i (some (.ref p'))) H1) :
    ∀ pins st, Inv X pins σ H st → wpAny (model X.prog X.w) X.A (exec (.Assign [.Name y py] (.ListComp elt [⟨tg, iter, ifs, 0⟩] scope pos) spos) X.env) (SP X pins En) X.xe st := fun pins st I =>
  (ps_setLc (wi := wpI X tg iter) (g := t.g X.K) (tt := ttB X ifs scope) (te := teB X elt scope) hc hN hy hyl hsw pi_wp ok hg (fun s' H' C cl fp => ⟨fun pins st σ H Q I h => h s' H' C cl fp pins st I⟩) (fun s' H' C cl fp => ⟨fun pins st σ H Q I h => h s' H' C cl fp pins st I⟩) hs).run pins st σ H En I
    (lc_read hi hsl he' ht hel hl s fun p' vs ds G1 H1 u h1 h2 h3 h4 h5 => q p' vs ds G1 H1 u h1 h2 h3 h4 h5)
/-- without a test -/
theorem df_lc0 {α : Type} {xs : List α} {f : α → D} {g : α → D} {env' : α → List SL} (hi : DI X J env tg iter (xs.map f)) (hc : X.calm = true) (hN : X.N.Nodup) (ok : BlkOk X.N X.env.scope scope own) (hsl : ∀ i ∈ t.slots, i ∈ own.map (·.2))
    (hg : blkX X scope fun X' => PG X' tg (t.g X'.K)) (he' : ∀ x, TSt t (f x) (wipeE env (own.map (·.2))) (env' x)) (hel : blkX X scope fun X' => ∀ x ∈ xs, DE X' J (env' x) elt (g x))
    (hl : xs.length < sizeLine) (hs : ∀ x, foldedSetIterable iter X.env x = pure x := by intro _; rfl) : DF X J env (.ListComp elt [⟨tg, iter, [], 0⟩] scope pos) (xs.map g) := by
  have h := df_lc (X := X) (J := J) (env := env) (pos := pos) (p := fun _ => true) (ifs := []) hi hc hN ok hsl hg he' (fun _ _ _ _ _ _ _ => dts_nil) (fun s H C cl fp x hx _ => hel s H C cl fp x hx) hl hs
  rw [List.filter_eq_self.mpr (fun _ _ => rfl)] at h
  exact h
end
end Sh
/-! Sh5: statements, defs, calls. -/
namespace Sh
open PySem PySem.Spec PyProof.Rows L2
open En (enc)
abbrev wpS (X : Cx) (st : Stmt) : TS := fun Dn σ H => ∀ pins s, Inv X pins σ H s → wpAny (model X.prog X.w) X.A (exec st X.env) (SP X pins Dn) X.xe s
abbrev wpB (X : Cx) (st : List Stmt) : TS := fun Dn σ H => ∀ pins s, Inv X pins σ H s → wpAny (model X.prog X.w) X.A (execs st X.env) (SP X pins Dn) X.xe s
theorem ps_wp {X : Cx} {st : Stmt} : PS X st (wpS X st) := ⟨fun pins s _ _ _ I h => h pins s I⟩
theorem pss_wp {X : Cx} {st : List Stmt} : PSs X st (wpB X st) := ⟨fun pins s _ _ _ I h => h pins s I⟩
theorem wpS_of {X : Cx} {st : Stmt} {t : TS} {σ : L2.St} {H : Hp} {Dn : Ends} (p : PS X st t) (h : t Dn σ H) : wpS X st Dn σ H := fun pins s I => p.run pins s σ H Dn I h
theorem wpB_of {X : Cx} {st : List Stmt} {t : TS} {σ : L2.St} {H : Hp} {Dn : Ends} (p : PSs X st t) (h : t Dn σ H) : wpB X st Dn σ H := fun pins s I => p.run pins s σ H Dn I h

def DS (X : Cx) (J : Jn) (env : List SL) (st : Stmt) (Φ : List SL → Prop) (Ψ : D → Prop) : Prop := ∀ (G0 H0 : Hp) (σ : L2.St) (H G : Hp) (Dn : Ends), StG X.K J G0 H0 env σ H G →
  (∀ env' σ' H' G', Φ env' → StG X.K J G0 H0 env' σ' H' G' → Dn.nx σ' H') → (∀ v d G' H', Up J G0 H0 G' H' → Is X.K G' v d → Ψ d → Dn.rt v H') → wpS X st Dn σ H
def DB (X : Cx) (J : Jn) (env : List SL) (st : List Stmt) (Φ : List SL → Prop) (Ψ : D → Prop) : Prop := ∀ (G0 H0 : Hp) (σ : L2.St) (H G : Hp) (Dn : Ends), StG X.K J G0 H0 env σ H G →
  (∀ env' σ' H' G', Φ env' → StG X.K J G0 H0 env' σ' H' G' → Dn.nx σ' H') → (∀ v d G' H', Up J G0 H0 G' H' → Is X.K G' v d → Ψ d → Dn.rt v H') → wpB X st Dn σ H
section
variable {X : Cx} {J : Jn} {env : List SL} {e c : Expr} {st : Stmt} {sts thn els body : List Stmt} {P : D → Prop} {Φ : List SL → Prop} {Ψ : D → Prop} {pos : Pos}
theorem db_nil (h : Φ env) : DB X J env [] Φ Ψ := fun _ _ σ H G Dn s q _ => wpB_of pss_nil (q env σ H G h s)
theorem db_cons (h : DS X J env st (fun env1 => DB X J env1 sts Φ Ψ) Ψ) : DB X J env (st :: sts) Φ Ψ := fun G0 H0 σ H G Dn s q r =>
  wpB_of (pss_cons ps_wp pss_wp) (h G0 H0 σ H G _ s (fun env' σ' H' G' d s' => d G0 H0 σ' H' G' Dn s' q r) r)
theorem DB.imp {Φ' : List SL → Prop} {Ψ' : D → Prop} (h : DB X J env sts Φ Ψ) (k : ∀ e, Φ e → Φ' e) (k2 : ∀ d, Ψ d → Ψ' d) : DB X J env sts Φ' Ψ' := fun G0 H0 σ H G Dn s q r =>
  h G0 H0 σ H G Dn s (fun env' σ' H' G' p s' => q env' σ' H' G' (k _ p) s') fun v d G' H' u i p => r v d G' H' u i (k2 d p)
/-- what cannot be -/
theorem ds_never (h : False) : DS X J env st Φ Ψ := h.elim
theorem db_never (h : False) : DB X J env sts Φ Ψ := h.elim
theorem ds_set {i : Nat} {n : Str} {pos' : Pos} (he : EP' X J env e P) (k : ∀ d, P d → Φ (env.set i (.d d))) (hN : X.N.Nodup) (hi : X.N[i]? = some n := by rfl) (hx : Loc X.env.scope n := by first | exact Or.inl rfl | exact Or.inr rfl) (hs : swapsWith e (some (.Name n pos')) pos.line X.env = pure false := by rfl)
    (hf : X.fn n = true ∨ X.env.scope.names.lookup n = some .local := by first | exact .inl rfl | exact .inr rfl | assumption) : DS X J env (.Assign [.Name n pos'] e pos) Φ Ψ := fun G0 H0 σ H G Dn s q r =>
  wpS_of (ps_set hN hi hx pe_wp hs hf) (he G0 H0 σ H G _ s fun v d G1 H1 u i p => q _ _ H1 G1 (k d p) ((s.ext u).setD _ i))
/-- x = e, e a new list, to be changed later -/
theorem ds_setO {i : Nat} {n : Str} {pos' : Pos} {P : List D → Prop} (he : FE' X J env e P) (k : ∀ ds, P ds → Φ (env.set i (.own (.lst ds)))) (hN : X.N.Nodup) (hi : X.N[i]? = some n := by rfl) (hx : Loc X.env.scope n := by first | exact Or.inl rfl | exact Or.inr rfl) (hs : swapsWith e (some (.Name n pos')) pos.line X.env = pure false := by rfl)
    (hf : X.fn n = true ∨ X.env.scope.names.lookup n = some .local := by first | exact .inl rfl | exact .inr rfl | assumption) : DS X J env (.Assign [.Name n pos'] e pos) Φ Ψ := fun G0 H0 σ H G Dn s q r =>
  wpS_of (ps_set hN hi hx pe_wp hs hf) (he G0 H0 σ H G _ s fun p vs ds G1 H1 u hp hg h1 al pd => q _ _ H1 G1 (k ds pd) (by
    -- the state with G1, ahead of the new thing, is the one at H with u's growth; the new one stands at p
    have s1 := s.ext u
    obtain ⟨ad, a1, a2, a3⟩ := s.sl
    have h0 : H0 p = none := by
      cases z : H0 p with
      | none => rfl
      | some o => exact absurd hp (s.up.fr p (by rw [z]; simp))
    obtain ⟨ad1, b1, b2, b3⟩ := s1.sl
    refine s1.setS i (v := .ref p) (x := .own (.lst ds)) (as := [p]) ⟨p, rfl, ⟨rfl, vs, h1, al⟩, fun a ha => by rw [List.mem_singleton.mp ha]; exact ⟨h0, hg⟩⟩ fun j sl as' nj e sj a ha m => ?_
    rw [List.mem_singleton.mp ha] at m
    cases sl with
    | no => rw [show as' = [] from sj] at m; cases m
    | d x => rw [sj.1] at m; cases m
    | own w =>
      obtain ⟨p', e2, r2, f2⟩ := sj
      have z := a1 j _ e
      obtain ⟨p0, e0, r0, f0⟩ := z
      rw [e2] at e0
      cases e0
      -- its addresses were live ahead
      have same : p ∈ ad j := by
        cases w with
        | lst xs => obtain ⟨x1, _⟩ := r0; obtain ⟨x2, _⟩ := r2; rw [x2] at m; rw [x1]; exact m
        | dct xs => obtain ⟨x1, _⟩ := r0; obtain ⟨x2, _⟩ := r2; rw [x2] at m; rw [x1]; exact m
        | gen bs ds mk => obtain ⟨x1, _⟩ := r0; obtain ⟨x2, _⟩ := r2; rw [x2] at m; rw [x1]; exact m
        | dl kvs =>
          obtain ⟨vs0, qs0, x1, _, hp0, dl0⟩ := r0
          obtain ⟨vs2, qs2, x2, _, hp2, dl2⟩ := r2
          rw [x2] at m
          rw [x1]
          have hm : ¬ J.M p' := fun mm => (s.al0 p' mm).1 (f0 p' (by rw [x1]; exact List.mem_cons_self)).1
          have ev : vs0 = vs2 := by
            have z1 := u.h p' _ hm hp0
            rw [hp2] at z1
            exact (HO.dK.inj (Option.some.inj z1)).symm
          subst ev
          have key : ∀ {vs : List (Key × V)} {qs qs' : List Addr} {k1 k2 : List (Key × List D)} {GA HA GB HB : Hp}, DlOk X.K GA HA vs qs k1 → DlOk X.K GB HB vs qs' k2 → qs = qs' := by
            intro vs qs qs' k1 k2 GA HA GB HB d1
            induction d1 generalizing qs' k2 with
            | nil => intro d2; cases d2; rfl
            | cons _ _ _ ih => intro d2; cases d2 with
              | cons _ _ t => rw [ih t]
          rw [key dl0 dl2]
          exact m
      exact (r0.live p same) hp))
theorem ds_expr (he : EP' X J env e P) (k : Φ env) (hs : swapsWith e none pos.line X.env = pure false := by rfl) : DS X J env (.Expr e pos) Φ Ψ := fun G0 H0 σ H G Dn s q r =>
  wpS_of (ps_expr pe_wp hs) (he G0 H0 σ H G _ s fun v d G1 H1 u i p => q _ _ H1 G1 k (s.ext u))
theorem map_frz_len : (env.map frz).length = env.length := List.length_map ..
/-- return e (own things are handed out) -/
theorem ds_ret (he : EP' X J (env.map frz) e P) (k : ∀ d, P d → Ψ d) : DS X J env (.Return (some e) pos) Φ Ψ := fun G0 H0 σ H G Dn s q r => by
  obtain ⟨O, Gf, z⟩ := s.freeze
  exact wpS_of (ps_ret pe_wp) (he G0 H0 σ H Gf _ z.st fun v d G1 H1 u i p => r v d G1 H1 (z.st.up.trans u) i (k d p))
theorem ds_retN (k : Ψ .non) : DS X J env (.Return none pos) Φ Ψ := fun G0 H0 σ H G Dn s q r => wpS_of ps_retN (r .non .non G H s.up .non k)
theorem ds_if {b : Bool} (hc : DT X J env c b) (ha : b = true → DB X J env thn Φ Ψ) (hb : b = false → DB X J env els Φ Ψ) : DS X J env (.If c thn els pos) Φ Ψ := fun G0 H0 σ H G Dn s q r =>
  wpS_of (ps_if pt_wp pss_wp pss_wp) (hc G0 H0 σ H G _ s fun b' G1 H1 u e => by
    subst e
    cases b' with
    | true => rw [if_pos rfl]; exact ha rfl G0 H0 σ H1 G1 Dn (s.ext u) q r
    | false => rw [if_neg Bool.false_ne_true]; exact hb rfl G0 H0 σ H1 G1 Dn (s.ext u) q r)
theorem tp_if {PB : Bool → Prop} (hc : TP' X J env c PB) (ha : PB true → DB X J env thn Φ Ψ) (hb : PB false → DB X J env els Φ Ψ) : DS X J env (.If c thn els pos) Φ Ψ := fun G0 H0 σ H G Dn s q r =>
  wpS_of (ps_if pt_wp pss_wp pss_wp) (hc G0 H0 σ H G _ s fun b' G1 H1 u e => by
    cases b' with
    | true => rw [if_pos rfl]; exact ha e G0 H0 σ H1 G1 Dn (s.ext u) q r
    | false => rw [if_neg Bool.false_ne_true]; exact hb e G0 H0 σ H1 G1 Dn (s.ext u) q r)
end
theorem StG.rebase {K : PySem.W.Frag} {J : Jn} {G0 H0 G H : Hp} {env : List SL} {σ : L2.St} (s : StG K J G0 H0 env σ H G) : StG K J G H0 env σ H G :=
  ⟨⟨Same.refl G, s.up.gh, s.up.h, s.up.fr, fun _ n _ => n, s.up.inv⟩, fun a m => ⟨(s.al0 a m).1, (s.bs.al a m).2⟩, s.len, s.sl⟩
theorem StG.unbase {K : PySem.W.Frag} {J : Jn} {G0 H0 G H G1 H1 : Hp} {env : List SL} {σ : L2.St} (s : StG K J G0 H0 env σ H G) (u : Up J G H0 G1 H1) : Up J G0 H0 G1 H1 :=
  ⟨s.up.g.trans u.g, u.gh, u.h, u.fr, fun a n n2 => u.hid a (s.up.hid a n n2) n2, u.inv⟩
theorem StG.unbaseS {K : PySem.W.Frag} {J : Jn} {G0 H0 G H G1 H1 : Hp} {env env1 : List SL} {σ σ1 : L2.St} (s : StG K J G0 H0 env σ H G) (t : StG K J G H0 env1 σ1 H1 G1) : StG K J G0 H0 env1 σ1 H1 G1 :=
  ⟨s.unbase t.up, s.al0, t.len, t.sl⟩
section
variable {X : Cx} {J : Jn} {env : List SL} {tg iter : Expr} {body : List Stmt} {Φ : List SL → Prop} {Ψ : D → Prop} {pos : Pos} {t : Tgt}
theorem ds_for {α : Type} {xs : List α} {f : α → D} (hi : DI X J env tg iter (xs.map f)) (Iv : Nat → List SL → Prop) (h0 : Iv 0 env)
    (hstep : ∀ i x env1, xs[i]? = some x → Iv i env1 → ∃ env2, TSt t (f x) env1 env2 ∧ DB X J env2 body (Iv (i + 1)) Ψ) (hd : ∀ env', Iv xs.length env' → Φ env')
    (hg : PG X tg (t.g X.K)) (hp : PassesOwn (model X.prog X.w) X.A X.env X.xe) (hc : X.calm = true := by rfl) (hs : ∀ x, foldedSetIterable iter X.env x = pure x := by intro _; rfl) : DS X J env (.For tg iter body [] pos) Φ Ψ := fun G0 H0 σ H G Dn s q r => by
  refine wpS_of (ps_for (wi := wpI X tg iter) (g := t.g X.K) (tb := wpB X body) hp hc pi_wp hg pss_wp hs) ?_
  refine hi G0 H0 σ H G _ s fun T ds G1 H1 u1 it eds => ?_
  subst eds
  have s1 := s.ext u1
  refine ⟨fun i m σ' H' => m = xs.length - i ∧ i ≤ xs.length ∧ ∃ env' G', Iv i env' ∧ StG X.K J G1 H0 env' σ' H' G', ⟨_, rfl, Nat.zero_le _, env, G1, h0, s1.rebase⟩, ?_⟩
  rintro i m σ' H' ⟨rfl, hi', env', G', iv, s'⟩
  by_cases hlt : i < xs.length
  · right
    have hx : xs[i]? = some xs[i] := List.getElem?_eq_getElem hlt
    refine ⟨it.go i H' G' s'.up.g s'.bs (by rw [List.length_map]; exact hlt), fun σ2 H2 => ∃ env2 G2, Iv (i + 1) env2 ∧ StG X.K J G1 H0 env2 σ2 H2 G2, fun σ2 H2 z => ⟨_, by omega, rfl, hlt, z⟩, fun x H2 hy => ?_⟩
    obtain ⟨G2, d, u2, ed, rd⟩ := it.yld i H' G' x H2 s'.up.g s'.bs (by rw [List.length_map]; exact hlt) hy
    rw [List.getElem?_map, hx] at ed
    cases ed
    obtain ⟨env2, ts, hb⟩ := hstep i xs[i] env' hx iv
    refine tgt_run (s'.ext u2) rd ts fun σ2 _ s2 => ?_
    exact hb G1 H0 σ2 H2 G2 _ s2 (fun env3 σ3 H3 G3 p3 s3 => ⟨env3, G3, p3, s3⟩) fun v d G3 H3 u3 i3 p3 => r v d G3 H3 (s1.unbase u3) i3 p3
  · left
    have e : i = xs.length := by omega
    subst e
    exact ⟨it.stop _ H' G' s'.up.g s'.bs (by rw [List.length_map]), q env' σ' H' G' (hd env' iv) (s1.unbaseS s')⟩
end

/-! ### own lists changed -/
section
variable {K : PySem.W.Frag} {J : Jn} {G0 H0 G H : Hp} {env : List SL} {σ : L2.St}
/-- the thing at slot i, and how it is changed -/
theorem StG.ownAt (s : StG K J G0 H0 env σ H G) {i : Nat} {w : OW} (e : env[i]? = some (.own w)) : ∃ p as, σ[i]? = some (some (.ref p)) ∧ OwOk K G H p as w ∧ ∀ (o : HO) (w' : OW), OwOk K G (upd H p o) p as w' → StG K J G0 H0 (env.set i (.own w')) σ (upd H p o) G := by
  obtain ⟨ad, h1, h2, h3⟩ := s.sl
  obtain ⟨p, e2, r, f⟩ := h1 i _ e
  have hp : p ∈ ad i := by
    cases w with
    | lst xs => obtain ⟨x1, _⟩ := r; rw [x1]; exact List.mem_singleton.mpr rfl
    | dct xs => obtain ⟨x1, _⟩ := r; rw [x1]; exact List.mem_singleton.mpr rfl
    | dl kvs => obtain ⟨_, _, x1, _⟩ := r; rw [x1]; exact List.mem_cons_self
    | gen bs ds mk => obtain ⟨x1, x2, _⟩ := r; rw [x1]; exact List.mem_of_mem_head? x2
  refine ⟨p, ad i, e2, r, fun o w' r' => ?_⟩
  have h0 := (f p hp).1
  have g0 := (f p hp).2
  have hi : i < env.length := (List.getElem?_eq_some_iff.mp e).1
  refine ⟨⟨s.up.g, fun a x q => ?_, fun a x m q => ?_, fun a n => ?_, s.up.hid, J.st _ _ s.up.inv fun a m => ?_⟩, s.al0, by rw [List.length_set]; exact s.len, ad, fun j sl q => ?_, h2, fun j hj => h3 j (by rw [List.length_set] at hj; exact hj)⟩
  · rw [upd_ne (ne_of_none q g0)]; exact s.up.gh a x q
  · rw [upd_ne (ne_of_none q h0)]; exact s.up.h a x m q
  · by_cases z : a = p
    · rw [z, upd_same]; simp
    · rw [upd_ne z]; exact s.up.fr a n
  · exact upd_ne fun z => (s.al0 a m).1 (by rw [z]; exact h0)
  · by_cases z : j = i
    · subst z
      rw [List.getElem?_set_self hi] at q
      cases q
      exact ⟨p, e2, r', f⟩
    · rw [List.getElem?_set_ne (Ne.symm z)] at q
      have y := h1 j sl q
      cases sl with
      | no => exact y
      | d x => exact y
      | own w2 =>
        obtain ⟨p2, e3, r3, f3⟩ := y
        exact ⟨p2, e3, r3.ext (Same.refl G) fun a ha o ho => by rw [upd_ne fun y => h2 j i a z ha (by rw [y]; exact hp)]; exact ho, f3⟩
end
section
variable {X : Cx} {J : Jn} {env : List SL} {e : Expr} {P : D → Prop} {Φ : List SL → Prop} {Ψ : D → Prop} {pos npos apos cpos : Pos}
/-- own.append(e) -/
theorem ds_append {i : Nat} {n : Str} {ds : List D} (ho : env[i]? = some (.own (.lst ds))) (he : EP' X J env e P) (hz : ds.length < sizeLine) (k : ∀ d, P d → Φ (env.set i (.own (.lst (ds ++ [d]))))) (hN : X.N[i]? = some n := by rfl) (hv : Vis X.env.scope n := by first | exact Or.inl rfl | exact Or.inr (Or.inl rfl) | exact Or.inr (Or.inr rfl))
    (hd : (n == ("__debug__" : Str)) = false := by decide) (hcd : (n == ("__classdict__" : Str)) = false := by decide) (hbase : attributeBase (.Name n npos) "append" X.env (eval (.Name n npos) X.env) = eval (.Name n npos) X.env := by rfl)
    (hfew : ((backTo cpos (starEach [e] X.env)).all (fun x => !x.1) && (backToKw cpos (keywordEach [] X.env)).all (fun x => x.1.isSome) && decide ([e].length + ([] : List Keyword).length + (if ([] : List Keyword).isEmpty then 0 else 1) < 30)) = true := by rfl)
    (hline : (apos.endLine == cpos.line) = true := by rfl) (hs : starEach [e] X.env = (false, eval e X.env) :: starEach [] X.env := by rfl) (hplain : (backTo cpos (starEach [] X.env)).any (·.1) = false := by rfl)
    (hsw : swapsWith (.Call (.Attribute (.Name n npos) "append" apos) [e] [] cpos) none pos.line X.env = pure false := by rfl) : DS X J env (.Expr (.Call (.Attribute (.Name n npos) "append" apos) [e] [] cpos) pos) Φ Ψ := fun G0 H0 σ H G Dn s q r => by
  refine wpS_of (ps_expr (pe_bm PySem.F.plainAttrs_list PySem.F.slot_list_append PySem.F.type_list_append mt_append (pe_var hN hv hd hcd) (pa_cons pe_wp pa_nil (by exact hs)) hbase hfew hline hs hplain) hsw) ?_
  obtain ⟨p, as, e2, ⟨ea, vs, hp, al⟩, _⟩ := s.ownAt ho
  refine ⟨.ref p, e2, .inl ⟨rfl, vs, .inl (.inl hp)⟩, ?_⟩
  refine he G0 H0 σ H G _ s fun v d G1 H1 u i1 pd => ?_
  have s1 := s.ext u
  obtain ⟨p', as', e2', ⟨ea', vs', hp', al'⟩, mu⟩ := s1.ownAt ho
  rw [e2] at e2'
  cases e2'
  refine ⟨p, vs', v, rfl, rfl, hp', by rw [al'.len]; exact hz, ?_⟩
  refine q _ _ _ _ (k d pd) (mu _ _ ⟨ea', vs' ++ [v], upd_same, al'.append (.cons i1 .nil)⟩)
/-- own.extend(e), e a list -/
theorem ds_extend {i : Nat} {n : Str} {ds : List D} {P : List D → Prop} (ho : env[i]? = some (.own (.lst ds))) (he : EP' X J env e (fun d => ∃ es, d = .lst es ∧ P es)) (hz : ∀ es, P es → ds.length + es.length ≤ sizeLine) (k : ∀ es, P es → Φ (env.set i (.own (.lst (ds ++ es))))) (hN : X.N[i]? = some n := by rfl) (hv : Vis X.env.scope n := by first | exact Or.inl rfl | exact Or.inr (Or.inl rfl) | exact Or.inr (Or.inr rfl))
    (hd : (n == ("__debug__" : Str)) = false := by decide) (hcd : (n == ("__classdict__" : Str)) = false := by decide) (hbase : attributeBase (.Name n npos) "extend" X.env (eval (.Name n npos) X.env) = eval (.Name n npos) X.env := by rfl)
    (hfew : ((backTo cpos (starEach [e] X.env)).all (fun x => !x.1) && (backToKw cpos (keywordEach [] X.env)).all (fun x => x.1.isSome) && decide ([e].length + ([] : List Keyword).length + (if ([] : List Keyword).isEmpty then 0 else 1) < 30)) = true := by rfl)
    (hline : (apos.endLine == cpos.line) = true := by rfl) (hs : starEach [e] X.env = (false, eval e X.env) :: starEach [] X.env := by rfl) (hplain : (backTo cpos (starEach [] X.env)).any (·.1) = false := by rfl)
    (hsw : swapsWith (.Call (.Attribute (.Name n npos) "extend" apos) [e] [] cpos) none pos.line X.env = pure false := by rfl) : DS X J env (.Expr (.Call (.Attribute (.Name n npos) "extend" apos) [e] [] cpos) pos) Φ Ψ := fun G0 H0 σ H G Dn s q r => by
  refine wpS_of (ps_expr (pe_bm PySem.F.plainAttrs_list PySem.F.slot_list_extend PySem.F.type_list_extend mt_extend (pe_var hN hv hd hcd) (pa_cons pe_wp pa_nil (by exact hs)) hbase hfew hline hs hplain) hsw) ?_
  obtain ⟨p, as, e2, ⟨ea, vs, hp, al⟩, _⟩ := s.ownAt ho
  refine ⟨.ref p, e2, .inl ⟨rfl, vs, .inl (.inl hp)⟩, ?_⟩
  refine he G0 H0 σ H G _ s fun v d G1 H1 u i1 pd => ?_
  obtain ⟨es, rfl, pe⟩ := pd
  have s1 := s.ext u
  obtain ⟨p', as', e2', ⟨ea', vs', hp', al'⟩, mu⟩ := s1.ownAt ho
  rw [e2] at e2'
  cases e2'
  obtain ⟨b, zs, rfl, hb, alb⟩ := i1.lst_inv
  refine ⟨p, b, vs', zs, rfl, rfl, hp', u.gh _ _ hb, by rw [al'.len, alb.len]; exact hz es pe, ?_⟩
  refine q _ _ _ _ (k es pe) (mu _ _ ⟨ea', vs' ++ zs, upd_same, al'.append alb⟩)
end

/-! ### defs -/
def startE (N : List Str) (ds : List D) : List SL := ds.map .d ++ List.replicate (N.length - ds.length) .no
def spT (K : PySem.W.Frag) (J : Jn) {α : Type} (args : α → List D) (Pre : α → Prop) (Post : α → D → Prop) : Sp := fun vs H Q _ => ∃ G a, Bs J G H ∧ IsAll K G vs (args a) ∧ Pre a ∧
  ∀ v d G1 H1, Up J G H G1 H1 → Is K G1 v d → Post a d → Q v H1
theorem isAll_start {K : PySem.W.Frag} {G : Hp} : ∀ {vs : List V} {ds : List D}, IsAll K G vs ds → ∀ (k i : Nat) (s : SL), (ds.map SL.d ++ List.replicate k SL.no)[i]? = some s → (∃ v d, s = .d d ∧ (vs.map some ++ List.replicate k none)[i]? = some (some v) ∧ Is K G v d) ∨ s = .no
  | [], [], .nil, k, i, s, e => by
    right
    have e' : (List.replicate k SL.no)[i]? = some s := by simpa using e
    have := List.mem_of_getElem? e'
    exact List.eq_of_mem_replicate this
  | v :: _, d :: _, .cons r t, k, 0, s, e => by
    left
    have e' : s = SL.d d := by simpa using e.symm
    exact ⟨v, d, e', by simp, r⟩
  | _ :: _, _ :: _, .cons r t, k, i + 1, s, e => by
    rcases isAll_start t k i s (by simpa using e) with ⟨v, d, h1, h2, h3⟩ | h
    · exact .inl ⟨v, d, h1, by simpa using h2, h3⟩
    · exact .inr h
theorem st_start {K : PySem.W.Frag} {J : Jn} {G H : Hp} {N : List Str} {vs : List V} {ds : List D} (b : Bs J G H) (al : IsAll K G vs ds) : StG K J G H (startE N ds) (L2.start N vs) H G := by
  refine ⟨Up.refl b, b.al, ?_, fun _ => [], fun i s e => ?_, fun _ _ _ _ (m : _ ∈ []) => absurd m (by simp), fun _ _ => rfl⟩
  · unfold startE L2.start
    rw [List.length_append, List.length_append, List.length_map, List.length_map, List.length_replicate, List.length_replicate, al.len]
  · have el : N.length - vs.length = N.length - ds.length := by rw [al.len]
    rcases isAll_start al (N.length - ds.length) i s e with ⟨v, d, rfl, h2, h3⟩ | rfl
    · exact ⟨rfl, v, by unfold L2.start; rw [el]; exact h2, h3⟩
    · rfl
section
variable {P : Program} {w : World} {K : PySem.W.Frag} {mg : Str → Option Value} {base : Heap}
abbrev bodyX (P : Program) (w : World) (K : PySem.W.Frag) (mg : Str → Option Value) (base : Heap) (N : List Str) (qual : Str) (st : Stmt) (f : Addr) (cdv : Value) (A : Around) (outer : List Env) (s : Shared) (H : Hp) (E : XK) : Cx := (cxOf CX0 P w K mg base N qual (defScope st) f cdv A outer s H E).nox
theorem fn_ok {x qual : Str} {st : Stmt} {f : Addr} {fd : FuncData} {N ps : List Str} {k : Nat} {J : Jn} {α : Type} {args : α → List D} {Pre : α → Prop} {Post : α → D → Prop} (F : Fun K x qual st f fd) (S : FnScope N ps (defScope st)) (hl : ∀ a, (args a).length = ps.length)
    (h : ∀ (cdv : Value) (A : Around) (outer : List Env) (s : Shared) (H : Hp) (E : XK) (a : α), Room k (bodyX P w K mg base N qual st f cdv A outer s H E).A → Pre a → DB (bodyX P w K mg base N qual st f cdv A outer s H E) J (startE N (args a)) (defBody st) (fun _ => Post a .non) (Post a)) :
    FnOk P w K mg base CX0 (k + 1) f fd ps (spT K J args Pre Post) := by
  refine F.ok S (fun vs H Q E hs => ?_) (fun cdv A outer s H vs Q E hr hs => ⟨wpB _ (defBody st), pss_wp, ?_⟩)
  · obtain ⟨G, a, _, al, _⟩ := hs
    rw [al.len, hl]
  · obtain ⟨G, a, b, al, pre, q⟩ := hs
    exact h cdv A outer s H E a hr pre G H (L2.start N vs) H G _ (st_start b al) (fun env' σ' H' G' p s' => q .non .non G' H' s'.up .non p) fun v d G1 H1 u i p => q v d G1 H1 u i p
end
section
variable {X : Cx} {J : Jn} {env : List SL} {e : Expr} {es : List Expr} {pos p : Pos} {k n : Nat} {f : Addr} {fd : FuncData} {ps : List Str} {α : Type} {args : α → List D} {Pre : α → Prop} {Post : α → D → Prop} {x : Str} {PA : List D → Prop} {P2 : D → Prop}
/-- f(e, ..), f a pure def -/
theorem ep_call0 (F : FnOk X.prog X.w X.K X.mg X.base CX0 k f fd ps (spT X.K J0 args Pre Post)) (hm : X.mg x = some (.ref f)) (hk : PySem.W.keepIn X.K (.ref f) = true) (hb : Binds X.K fd ps []) (hr : Room k X.A) (ha : AP' X J env (e :: es) PA) (hpre : ∀ ds, PA ds → ∃ a, ds = args a ∧ Pre a ∧ ∀ d, Post a d → P2 d)
    (hg : Gl X x := by rfl) (hdb : (x == ("__debug__" : Str)) = false := by decide) (he : starEach (e :: es) X.env = (false, eval e X.env) :: starEach es X.env := by rfl) (hpl : (backTo pos (starEach es X.env)).any (·.1) = false := by rfl) : EP' X J env (.Call (.Name x p) (e :: es) [] pos) P2 := fun G0 H0 σ H G Q s q => by
  refine wp_of (pe_call (E := E0) F hr hg hm hk hb .nil pass0 pa_wp hdb he hpl) ?_
  refine ha G0 H0 σ H G _ s fun vs ds G1 H1 u al pa => ?_
  obtain ⟨a, rfl, h2, h3⟩ := hpre ds pa
  rw [List.append_nil]
  exact ⟨G1, a, (s.ext u).bs.zero, al, h2, fun v d G2 H2 u2 i2 p2 => q v d G2 H2 (u.trans (Up.ofZero (s.ext u).bs u2)) i2 (h3 d p2)⟩
/-- .. a def that works on J -/
theorem ep_callJ (F : FnOk X.prog X.w X.K X.mg X.base CX0 k f fd ps (spT X.K J args Pre Post)) (hm : X.mg x = some (.ref f)) (hk : PySem.W.keepIn X.K (.ref f) = true) (hb : Binds X.K fd ps []) (hr : Room k X.A) (ha : AP' X J env (e :: es) PA) (hpre : ∀ ds, PA ds → ∃ a, ds = args a ∧ Pre a ∧ ∀ d, Post a d → P2 d)
    (hg : Gl X x := by rfl) (hdb : (x == ("__debug__" : Str)) = false := by decide) (he : starEach (e :: es) X.env = (false, eval e X.env) :: starEach es X.env := by rfl) (hpl : (backTo pos (starEach es X.env)).any (·.1) = false := by rfl) : EP' X J env (.Call (.Name x p) (e :: es) [] pos) P2 := fun G0 H0 σ H G Q s q => by
  refine wp_of (pe_call (E := E0) F hr hg hm hk hb .nil pass0 pa_wp hdb he hpl) ?_
  refine ha G0 H0 σ H G _ s fun vs ds G1 H1 u al pa => ?_
  obtain ⟨a, rfl, h2, h3⟩ := hpre ds pa
  rw [List.append_nil]
  exact ⟨G1, a, (s.ext u).bs, al, h2, fun v d G2 H2 u2 i2 p2 => q v d G2 H2 (u.trans u2) i2 (h3 d p2)⟩
/-- a pure def with a value -/
theorem de_call {val : α → D} {ds : List D} (F : FnOk X.prog X.w X.K X.mg X.base CX0 k f fd ps (spT X.K J0 args Pre (fun a d => d = val a))) (hm : X.mg x = some (.ref f)) (hk : PySem.W.keepIn X.K (.ref f) = true) (hb : Binds X.K fd ps []) (hr : Room k X.A) (a : α) (ha : DA X J env (e :: es) (args a)) (hpre : Pre a)
    (hg : Gl X x := by rfl) (hdb : (x == ("__debug__" : Str)) = false := by decide) (he : starEach (e :: es) X.env = (false, eval e X.env) :: starEach es X.env := by rfl) (hpl : (backTo pos (starEach es X.env)).any (·.1) = false := by rfl) : DE X J env (.Call (.Name x p) (e :: es) [] pos) (val a) :=
  ep_call0 F hm hk hb hr ha (fun ds e => ⟨a, e, hpre, fun d h => h⟩) hg hdb he hpl
end
/-! ### deterministic forms -/
section
variable {X : Cx} {J : Jn} {env : List SL} {e c : Expr} {d : D} {Φ : List SL → Prop} {Ψ : D → Prop} {pos : Pos} {thn els : List Stmt}
theorem ds_setD {i : Nat} {n : Str} {pos' : Pos} (he : DE X J env e d) (hN : X.N.Nodup) (k : Φ (env.set i (.d d))) (hi : X.N[i]? = some n := by rfl) (hx : Loc X.env.scope n := by first | exact Or.inl rfl | exact Or.inr rfl) (hs : swapsWith e (some (.Name n pos')) pos.line X.env = pure false := by rfl)
    (hf : X.fn n = true ∨ X.env.scope.names.lookup n = some .local := by first | exact .inl rfl | exact .inr rfl | assumption) : DS X J env (.Assign [.Name n pos'] e pos) Φ Ψ := ds_set he (fun _ e => by rw [e]; exact k) hN hi hx hs hf
theorem ds_retD (he : DE X J (env.map frz) e d) (k : Ψ d) : DS X J env (.Return (some e) pos) Φ Ψ := ds_ret he fun _ e => by rw [e]; exact k
theorem ds_setOD {i : Nat} {n : Str} {pos' : Pos} {ds : List D} (he : DF X J env e ds) (hN : X.N.Nodup) (k : Φ (env.set i (.own (.lst ds)))) (hi : X.N[i]? = some n := by rfl) (hx : Loc X.env.scope n := by first | exact Or.inl rfl | exact Or.inr rfl) (hs : swapsWith e (some (.Name n pos')) pos.line X.env = pure false := by rfl)
    (hf : X.fn n = true ∨ X.env.scope.names.lookup n = some .local := by first | exact .inl rfl | exact .inr rfl | assumption) : DS X J env (.Assign [.Name n pos'] e pos) Φ Ψ := ds_setO he (fun _ e => by rw [e]; exact k) hN hi hx hs hf
theorem ds_appendD {i : Nat} {n : Str} {ds : List D} {npos apos cpos : Pos} (ho : env[i]? = some (.own (.lst ds))) (he : DE X J env e d) (hz : ds.length < sizeLine) (k : Φ (env.set i (.own (.lst (ds ++ [d]))))) (hN : X.N[i]? = some n := by rfl) (hv : Vis X.env.scope n := by first | exact Or.inl rfl | exact Or.inr (Or.inl rfl) | exact Or.inr (Or.inr rfl))
    (hd : (n == ("__debug__" : Str)) = false := by decide) (hcd : (n == ("__classdict__" : Str)) = false := by decide) (hbase : attributeBase (.Name n npos) "append" X.env (eval (.Name n npos) X.env) = eval (.Name n npos) X.env := by rfl)
    (hfew : ((backTo cpos (starEach [e] X.env)).all (fun x => !x.1) && (backToKw cpos (keywordEach [] X.env)).all (fun x => x.1.isSome) && decide ([e].length + ([] : List Keyword).length + (if ([] : List Keyword).isEmpty then 0 else 1) < 30)) = true := by rfl)
    (hline : (apos.endLine == cpos.line) = true := by rfl) (hs : starEach [e] X.env = (false, eval e X.env) :: starEach [] X.env := by rfl) (hplain : (backTo cpos (starEach [] X.env)).any (·.1) = false := by rfl)
    (hsw : swapsWith (.Call (.Attribute (.Name n npos) "append" apos) [e] [] cpos) none pos.line X.env = pure false := by rfl) : DS X J env (.Expr (.Call (.Attribute (.Name n npos) "append" apos) [e] [] cpos) pos) Φ Ψ :=
  ds_append ho he hz (fun _ e => by rw [e]; exact k) hN hv hd hcd hbase hfew hline hs hplain hsw
end
end Sh
/-! Sw: the words. -/
namespace Sh
open PySem PySem.Spec PyProof.Rows L2
/-- the texts that the program and the law use -/
inductive W where
  | begun | go | drop | ended | returned | ret | reserve | hold | send | take | release | free | restock | refund | reserved | held | sent | taken | released | freed | restocked | refunded | full | poor | back | shop | bank | east | west | s0 | s1 | s2 | b0 | b1 | d0 | d1 | d2 | tick | come | double | lose | fall | order | choice | early | things | coins | x | none | beg | giveup | fin | em
  deriving DecidableEq
def W.s : W → Str
  | .begun => "begun"
  | .go => "go"
  | .drop => "drop"
  | .ended => "ended"
  | .returned => "returned"
  | .ret => "return"
  | .reserve => "reserve"
  | .hold => "hold"
  | .send => "send"
  | .take => "take"
  | .release => "release"
  | .free => "free"
  | .restock => "restock"
  | .refund => "refund"
  | .reserved => "reserved"
  | .held => "held"
  | .sent => "sent"
  | .taken => "taken"
  | .released => "released"
  | .freed => "freed"
  | .restocked => "restocked"
  | .refunded => "refunded"
  | .full => "full"
  | .poor => "poor"
  | .back => "back"
  | .shop => "shop"
  | .bank => "bank"
  | .east => "east"
  | .west => "west"
  | .s0 => "s0"
  | .s1 => "s1"
  | .s2 => "s2"
  | .b0 => "b0"
  | .b1 => "b1"
  | .d0 => "d0"
  | .d1 => "d1"
  | .d2 => "d2"
  | .tick => "tick"
  | .come => "come"
  | .double => "double"
  | .lose => "lose"
  | .fall => "fall"
  | .order => "order"
  | .choice => "choice"
  | .early => "early"
  | .things => "things"
  | .coins => "coins"
  | .x => "x"
  | .none => "none"
  | .beg => "begin"
  | .giveup => "give up"
  | .fin => "end"
  | .em => ""
def W.all : List W := [.begun, .go, .drop, .ended, .returned, .ret, .reserve, .hold, .send, .take, .release, .free, .restock, .refund, .reserved, .held, .sent, .taken, .released, .freed, .restocked, .refunded, .full, .poor, .back, .shop, .bank, .east, .west, .s0, .s1, .s2, .b0, .b1, .d0, .d1, .d2, .tick, .come, .double, .lose, .fall, .order, .choice, .early, .things, .coins, .x, .none, .beg, .giveup, .fin, .em]
def W.of (x : Str) : Option W := W.all.find? fun w => decide (w.s = x)
theorem W.of_s : ∀ w : W, W.of w.s = some w := by
  intro w
  cases w <;> decide +kernel
theorem W.s_inj {a b : W} (h : a.s = b.s) : a = b := by
  have e := W.of_s a
  rw [h, W.of_s b] at e
  exact (Option.some.inj e).symm
theorem W.ok (w : W) : PyData.strOk w.s = true := by cases w <;> decide +kernel
theorem W.s_iff {a b : W} : a.s = b.s ↔ a = b := ⟨W.s_inj, fun h => by rw [h]⟩
theorem W.len (w : W) : w.s.length ≤ 10 := by cases w <;> decide +kernel
instance : En W := ⟨fun w => .str w.s, 0, fun w => .str 0 w.s w.ok, fun w => .str w.s, fun a b h => W.s_inj (D.str.inj h)⟩
end Sh
/-! Sh6: packaged rules. -/
namespace Sh
open PySem PySem.Spec PyProof.Rows L2
open En (enc)
section
variable {X : Cx} {J : Jn} {env : List SL} {a b c e : Expr} {es : List Expr} {pos p : Pos} {k : Nat} {d x y : D}
theorem de_W (w : W) {z : Str} {j} (h : w.s = z := by rfl) : DE X J env (.Constant (.str z) j pos) (enc w) := by
  rw [← h]; exact de_str
theorem de_gW {w : W} {n : Str} (hm : ∃ t, X.mg n = some (.str w.s t)) (hg : Gl X n := by rfl) (hd : (n == ("__debug__" : Str)) = false := by decide) : DE X J env (.Name n pos) (enc w) := by
  obtain ⟨t, hm⟩ := hm
  exact de_gstr hm hg hd
/-! ### comparisons of typed data -/
theorem dt_eq {α : Type} [En α] {x y : α} [Decidable (x = y)] (hr : Room k X.A) (ha : DE X J env a (enc x)) (hb : DE X J env b (enc y)) (hn : En.dep α ≤ 64 := by decide) : DT X J env (.Compare a [.Eq] [b] pos) (decide (x = y)) :=
  dt_cmp (op_eqD hr.units) (rb_eqD (En.pl x) (En.pl y) hn hn (by rw [decide_eq_true_eq, enc_inj])) ha hb (nomark _)
theorem dt_ne {α : Type} [En α] {x y : α} [Decidable (x = y)] (hr : Room k X.A) (ha : DE X J env a (enc x)) (hb : DE X J env b (enc y)) (hn : En.dep α ≤ 64 := by decide) : DT X J env (.Compare a [.NotEq] [b] pos) (!decide (x = y)) :=
  dt_cmp (op_neD hr.units) (rb_neD (En.pl x) (En.pl y) hn hn (by rw [decide_eq_true_eq, enc_inj])) ha hb (nomark _)
theorem de_eq {α : Type} [En α] {x y : α} [Decidable (x = y)] (hr : Room k X.A) (ha : DE X J env a (enc x)) (hb : DE X J env b (enc y)) (hn : En.dep α ≤ 64 := by decide) : DE X J env (.Compare a [.Eq] [b] pos) (.bl (decide (x = y))) :=
  ep_cmp (op_eqD hr.units) (rb_eqD (En.pl x) (En.pl y) hn hn (by rw [decide_eq_true_eq, enc_inj])) ha hb (nomark _)
theorem de_ne {α : Type} [En α] {x y : α} [Decidable (x = y)] (hr : Room k X.A) (ha : DE X J env a (enc x)) (hb : DE X J env b (enc y)) (hn : En.dep α ≤ 64 := by decide) : DE X J env (.Compare a [.NotEq] [b] pos) (.bl (!decide (x = y))) :=
  ep_cmp (op_neD hr.units) (rb_neD (En.pl x) (En.pl y) hn hn (by rw [decide_eq_true_eq, enc_inj])) ha hb (nomark _)
/-- two lists -/
theorem dt_eqL {α : Type} [En α] {x y : List α} [Decidable (x = y)] (hr : Room k X.A) (ha : DE X J env a (encL x)) (hb : DE X J env b (encL y)) (hn : En.dep α + 1 ≤ 64 := by decide) : DT X J env (.Compare a [.Eq] [b] pos) (decide (x = y)) :=
  dt_cmp (op_eqD hr.units) (rb_eqD (pl_encL x) (pl_encL y) hn hn (by rw [decide_eq_true_eq, encL_inj])) ha hb (nomark _)
theorem dt_neL {α : Type} [En α] {x y : List α} [Decidable (x = y)] (hr : Room k X.A) (ha : DE X J env a (encL x)) (hb : DE X J env b (encL y)) (hn : En.dep α + 1 ≤ 64 := by decide) : DT X J env (.Compare a [.NotEq] [b] pos) (!decide (x = y)) :=
  dt_cmp (op_neD hr.units) (rb_neD (pl_encL x) (pl_encL y) hn hn (by rw [decide_eq_true_eq, encL_inj])) ha hb (nomark _)
theorem de_eqL {α : Type} [En α] {x y : List α} [Decidable (x = y)] (hr : Room k X.A) (ha : DE X J env a (encL x)) (hb : DE X J env b (encL y)) (hn : En.dep α + 1 ≤ 64 := by decide) : DE X J env (.Compare a [.Eq] [b] pos) (.bl (decide (x = y))) :=
  ep_cmp (op_eqD hr.units) (rb_eqD (pl_encL x) (pl_encL y) hn hn (by rw [decide_eq_true_eq, encL_inj])) ha hb (nomark _)
theorem de_neL {α : Type} [En α] {x y : List α} [Decidable (x = y)] (hr : Room k X.A) (ha : DE X J env a (encL x)) (hb : DE X J env b (encL y)) (hn : En.dep α + 1 ≤ 64 := by decide) : DE X J env (.Compare a [.NotEq] [b] pos) (.bl (!decide (x = y))) :=
  ep_cmp (op_neD hr.units) (rb_neD (pl_encL x) (pl_encL y) hn hn (by rw [decide_eq_true_eq, encL_inj])) ha hb (nomark _)
theorem hu65 (hr : Room k X.A) : X.A.units + 65 < cLine := by have := hr.un; omega
theorem dt_in {α : Type} [En α] {x : α} {ys : List α} [Decidable (x ∈ ys)] (hr : Room k X.A) (ha : DE X J env a (enc x)) (hb : DE X J env b y) (hq : Sq y (ys.map enc)) (hn : En.dep α ≤ 60 := by decide) (hm : behindInMarks .In b = false := by rfl) : DT X J env (.Compare a [.In] [b] pos) (decide (x ∈ ys)) :=
  dt_cmp (op_inA (hu65 hr)) (rb_in (c := decide (x ∈ ys)) (neg := false) hq (En.pl x) (PlAll.map En.pl ys) (by omega) (by omega) (by rw [decide_eq_true_eq, mem_enc])) ha hb hm
theorem dt_nin {α : Type} [En α] {x : α} {ys : List α} [Decidable (x ∈ ys)] (hr : Room k X.A) (ha : DE X J env a (enc x)) (hb : DE X J env b y) (hq : Sq y (ys.map enc)) (hn : En.dep α ≤ 60 := by decide) (hm : behindInMarks .NotIn b = false := by rfl) : DT X J env (.Compare a [.NotIn] [b] pos) (!decide (x ∈ ys)) :=
  dt_cmp (op_notInA (hu65 hr)) (rb_in (c := decide (x ∈ ys)) (neg := true) hq (En.pl x) (PlAll.map En.pl ys) (by omega) (by omega) (by rw [decide_eq_true_eq, mem_enc])) ha hb hm
theorem de_in {α : Type} [En α] {x : α} {ys : List α} [Decidable (x ∈ ys)] (hr : Room k X.A) (ha : DE X J env a (enc x)) (hb : DE X J env b y) (hq : Sq y (ys.map enc)) (hn : En.dep α ≤ 60 := by decide) (hm : behindInMarks .In b = false := by rfl) : DE X J env (.Compare a [.In] [b] pos) (.bl (decide (x ∈ ys))) :=
  ep_cmp (op_inA (hu65 hr)) (rb_in (c := decide (x ∈ ys)) (neg := false) hq (En.pl x) (PlAll.map En.pl ys) (by omega) (by omega) (by rw [decide_eq_true_eq, mem_enc])) ha hb hm
theorem de_nin {α : Type} [En α] {x : α} {ys : List α} [Decidable (x ∈ ys)] (hr : Room k X.A) (ha : DE X J env a (enc x)) (hb : DE X J env b y) (hq : Sq y (ys.map enc)) (hn : En.dep α ≤ 60 := by decide) (hm : behindInMarks .NotIn b = false := by rfl) : DE X J env (.Compare a [.NotIn] [b] pos) (.bl (!decide (x ∈ ys))) :=
  ep_cmp (op_notInA (hu65 hr)) (rb_in (c := decide (x ∈ ys)) (neg := true) hq (En.pl x) (PlAll.map En.pl ys) (by omega) (by omega) (by rw [decide_eq_true_eq, mem_enc])) ha hb hm
/-! ### ints -/
theorem de_add {i j : Int} (ha : DE X J env a (.int i)) (hb : DE X J env b (.int j)) : DE X J env (.BinOp a .Add b pos) (.int (i + j)) := ep_op op_add rb_add ha hb
theorem de_sub {i j : Int} (ha : DE X J env a (.int i)) (hb : DE X J env b (.int j)) : DE X J env (.BinOp a .Sub b pos) (.int (i - j)) := ep_op op_sub rb_sub ha hb
theorem dt_lt {i j : Int} (ha : DE X J env a (.int i)) (hb : DE X J env b (.int j)) : DT X J env (.Compare a [.Lt] [b] pos) (decide (i < j)) := dt_cmp op_lt rb_lt ha hb (nomark _)
theorem dt_gt {i j : Int} (ha : DE X J env a (.int i)) (hb : DE X J env b (.int j)) : DT X J env (.Compare a [.Gt] [b] pos) (decide (j < i)) := dt_cmp op_gt rb_gt ha hb (nomark _)
theorem de_ge {i j : Int} (ha : DE X J env a (.int i)) (hb : DE X J env b (.int j)) : DE X J env (.Compare a [.GtE] [b] pos) (.bl (decide (j ≤ i))) := ep_cmp op_ge rb_ge ha hb (nomark _)
/-! ### items -/
theorem de_ixT {ds : List D} {i : Int} (ha : DE X J env a (.tup ds)) (hb : DE X J env b (.int i)) (h : atI ds i = some d) (hs : PlainIx b := by exact fun _ _ => rfl) : DE X J env (.Subscript a b pos) d := ep_ix ix_tup (rb_ixT h) ha hb hs
theorem de_ixL {ds : List D} {i : Int} (ha : DE X J env a (.lst ds)) (hb : DE X J env b (.int i)) (h : atI ds i = some d) (hs : PlainIx b := by exact fun _ _ => rfl) : DE X J env (.Subscript a b pos) d := ep_ix ix_list (rb_ixL h) ha hb hs
/-- at a written place -/
theorem de_ixn {ds : List D} (n : Nat) {j} {q : Pos} (ha : DE X J env a (.tup ds)) (h : ds[n]? = some d) : DE X J env (.Subscript a (.Constant (.int (n : Int)) j q) pos) d := de_ixT ha de_int (atI_nat h)
theorem de_ixnL {ds : List D} (n : Nat) {j} {q : Pos} (ha : DE X J env a (.lst ds)) (h : ds[n]? = some d) : DE X J env (.Subscript a (.Constant (.int (n : Int)) j q) pos) d := de_ixL ha de_int (atI_nat h)
/-! ### displays -/
theorem ep_tup {x1} {PA : List D → Prop} {P2 : D → Prop} (h : AP' X J env es PA) (k : ∀ ds, PA ds → ds.length ≤ sizeLine ∧ P2 (.tup ds)) : EP' X J env (.Tuple es x1 pos) P2 := fun G0 H0 σ H G Q s q => wp_of (pe_tup pa_wp) (h G0 H0 σ H G _ s fun vs ds G1 H1 u al pa => by
  obtain ⟨k1, k2⟩ := k ds pa
  refine ⟨by rw [al.len]; exact k1, fun p hp => ?_⟩
  have u2 := Up.new (s.ext u).bs (o := .tup vs) hp
  exact q _ _ _ _ (u.trans u2) (.tup (.inl (.inl upd_same)) (al.mono u2.g)) k2)
theorem de_tup {x1} {ds : List D} (h : DA X J env es ds) (hl : ds.length ≤ 1000 := by exact Nat.le_of_ble_eq_true rfl) : DE X J env (.Tuple es x1 pos) (.tup ds) := ep_tup h fun _ e => by rw [e]; exact ⟨Nat.le_trans hl (by decide), rfl⟩
theorem fe_lst {PA : List D → Prop} (h : AP' X J env es PA) (k : ∀ ds, PA ds → ds.length ≤ sizeLine) : FE' X J env (.List es pos) PA := fun G0 H0 σ H G Q s q => wp_of (pe_lst pa_wp) (h G0 H0 σ H G _ s fun vs ds G1 H1 u al pa => by
  refine ⟨by rw [al.len]; exact k ds pa, fun p hp => ?_⟩
  have s1 := s.ext u
  have hH : H p = none := by
    cases z : H p with
    | none => rfl
    | some o => exact absurd hp (u.fr p (by rw [z]; simp))
  exact q p vs ds G1 _ (u.trans (Up.newH s1.bs hp)) hH (s1.bs.gh.free hp) upd_same al pa)
theorem df_lst {ds : List D} (h : DA X J env es ds) (hl : ds.length ≤ 1000 := by exact Nat.le_of_ble_eq_true rfl) : DF X J env (.List es pos) ds := fe_lst h fun _ e => by rw [e]; exact Nat.le_trans hl (by decide)
theorem df_nil : DF X J env (.List [] pos) [] := df_lst da_nil
theorem de_catL {xs ys : List D} (ha : DE X J env a (.lst xs)) (hb : DE X J env b (.lst ys)) (hl : xs.length + ys.length ≤ sizeLine) : DE X J env (.BinOp a .Add b pos) (.lst (xs ++ ys)) := ep_op op_cat (rb_catL hl) ha hb
theorem de_catT {xs ys : List D} (ha : DE X J env a (.tup xs)) (hb : DE X J env b (.tup ys)) (hl : xs.length + ys.length ≤ sizeLine) : DE X J env (.BinOp a .Add b pos) (.tup (xs ++ ys)) := ep_op op_catA (rb_catT hl) ha hb
/-! ### truth -/
variable {rest : List Expr} {c1 c2 : Bool}
abbrev wpW (X : Cx) (e : Expr) : TT := fun σ H Q => ∀ (whole : Sem Value) pins s, Inv X pins σ H s → wpAny (model X.prog X.w) X.A (isTrue e X.env whole) (TP X pins σ Q) X.xe s
theorem pw_wp {X : Cx} {e : Expr} : PW X e (wpW X e) := ⟨fun wh pins s _ _ _ I h => h wh pins s I⟩
/-- an and, or as a test, whatever its whole is -/
def DW (X : Cx) (J : Jn) (env : List SL) (e : Expr) (b : Bool) : Prop := ∀ (G0 H0 : Hp) (σ : L2.St) (H G : Hp) (Q : Bool → Hp → Prop), StG X.K J G0 H0 env σ H G →
  (∀ G1 H1, Up J G H G1 H1 → Q b H1) → wpW X e σ H Q
theorem dt_w (h : DW X J env e c1) : DT X J env e c1 := fun G0 H0 σ H G Q s q => wpT_of pw_wp.pt (h G0 H0 σ H G Q s fun G1 H1 u => q c1 G1 H1 u rfl)
theorem dw_and1 (h : DT X J env a c1) : DW X J env (.BoolOp .And [a] pos) c1 := fun G0 H0 σ H G Q s q wh pins st I => (pw_and1 pt_wp).run wh pins st σ H Q I (h G0 H0 σ H G Q s fun b G1 H1 u e => by rw [e]; exact q G1 H1 u)
theorem dw_or1 (h : DT X J env a c1) : DW X J env (.BoolOp .Or [a] pos) c1 := fun G0 H0 σ H G Q s q wh pins st I => (pw_or1 pt_wp).run wh pins st σ H Q I (h G0 H0 σ H G Q s fun b G1 H1 u e => by rw [e]; exact q G1 H1 u)
theorem dw_and (h : DT X J env a c1) (h2 : c1 = true → DW X J env (.BoolOp .And (b :: rest) pos) c2) : DW X J env (.BoolOp .And (a :: b :: rest) pos) (c1 && c2) := fun G0 H0 σ H G Q s q wh pins st I =>
  (pw_and pt_wp pw_wp).run wh pins st σ H Q I (h G0 H0 σ H G _ s fun b' G1 H1 u e => by
    subst e
    cases b' with
    | true => rw [if_pos rfl]; exact h2 rfl G0 H0 σ H1 G1 _ (s.ext u) fun G2 H2 u2 => q G2 H2 (u.trans u2)
    | false => rw [if_neg Bool.false_ne_true]; exact q G1 H1 u)
theorem dw_or (h : DT X J env a c1) (h2 : c1 = false → DW X J env (.BoolOp .Or (b :: rest) pos) c2) : DW X J env (.BoolOp .Or (a :: b :: rest) pos) (c1 || c2) := fun G0 H0 σ H G Q s q wh pins st I =>
  (pw_or pt_wp pw_wp).run wh pins st σ H Q I (h G0 H0 σ H G _ s fun b' G1 H1 u e => by
    subst e
    cases b' with
    | true => rw [if_pos rfl]; exact q G1 H1 u
    | false => rw [if_neg Bool.false_ne_true]; exact h2 rfl G0 H0 σ H1 G1 _ (s.ext u) fun G2 H2 u2 => q G2 H2 (u.trans u2))
theorem dt_not (h : DT X J env a c1) : DT X J env (.UnaryOp .Not a pos) (!c1) := fun G0 H0 σ H G Q s q => wpT_of (pt_not pt_wp) (h G0 H0 σ H G _ s fun b G1 H1 u e => q _ G1 H1 u (by rw [e]))
theorem dt_val (h : DE X J env e (.bl c1)) (he : ∀ whole, isTrue e X.env whole = (do let v ← whole; standAt e.pos; holding [v] (truthy v)) := by intro _; rfl) : DT X J env e c1 := fun G0 H0 σ H G Q s q => wpT_of (pt_val pe_wp he) (h G0 H0 σ H G _ s fun v d G1 H1 u r p => by
  subst p
  exact ⟨c1, r.bl_inv, q c1 G1 H1 u rfl⟩)
/-- as values -/
theorem de_one {op} (h : DE X J env a d) : DE X J env (.BoolOp op [a] pos) d := fun G0 H0 σ H G Q s q => wp_of (pe_one pe_wp) (h G0 H0 σ H G Q s q)
theorem de_and (h : DE X J env a (.bl c1)) (h2 : c1 = true → DE X J env (.BoolOp .And (b :: rest) pos) (.bl c2)) : DE X J env (.BoolOp .And (a :: b :: rest) pos) (.bl (c1 && c2)) := fun G0 H0 σ H G Q s q => wp_of (pe_and pe_wp pe_wp) (h G0 H0 σ H G _ s fun v d G1 H1 u r p => by
  subst p
  refine ⟨c1, r.bl_inv, ?_⟩
  cases c1 with
  | true => rw [if_pos rfl]; exact h2 rfl G0 H0 σ H1 G1 _ (s.ext u) fun v2 d2 G2 H2 u2 r2 p2 => q v2 d2 G2 H2 (u.trans u2) r2 p2
  | false => rw [if_neg Bool.false_ne_true]; exact q _ _ G1 H1 u (.bl false) rfl)
theorem de_or (h : DE X J env a (.bl c1)) (h2 : c1 = false → DE X J env (.BoolOp .Or (b :: rest) pos) (.bl c2)) : DE X J env (.BoolOp .Or (a :: b :: rest) pos) (.bl (c1 || c2)) := fun G0 H0 σ H G Q s q => wp_of (pe_or pe_wp pe_wp) (h G0 H0 σ H G _ s fun v d G1 H1 u r p => by
  subst p
  refine ⟨c1, r.bl_inv, ?_⟩
  cases c1 with
  | true => rw [if_pos rfl]; exact q _ _ G1 H1 u (.bl true) rfl
  | false => rw [if_neg Bool.false_ne_true]; exact h2 rfl G0 H0 σ H1 G1 _ (s.ext u) fun v2 d2 G2 H2 u2 r2 p2 => q v2 d2 G2 H2 (u.trans u2) r2 p2)
theorem de_not (h : DE X J env a (.bl c1)) : DE X J env (.UnaryOp .Not a pos) (.bl (!c1)) := fun G0 H0 σ H G Q s q => wp_of (pe_not pe_wp) (h G0 H0 σ H G _ s fun v d G1 H1 u r p => by
  subst p
  exact ⟨c1, r.bl_inv, q _ _ G1 H1 u (.bl _) rfl⟩)
theorem de_if {P : D → Prop} (hc : DT X J env c c1) (ha : c1 = true → EP' X J env a P) (hb : c1 = false → EP' X J env b P) : EP' X J env (.IfExp c a b pos) P := fun G0 H0 σ H G Q s q => wp_of (pe_ifExp pt_wp pe_wp pe_wp) (hc G0 H0 σ H G _ s fun b' G1 H1 u e => by
  subst e
  cases b' with
  | true => rw [if_pos rfl]; exact ha rfl G0 H0 σ H1 G1 _ (s.ext u) fun v d G2 H2 u2 r p => q v d G2 H2 (u.trans u2) r p
  | false => rw [if_neg Bool.false_ne_true]; exact hb rfl G0 H0 σ H1 G1 _ (s.ext u) fun v d G2 H2 u2 r p => q v d G2 H2 (u.trans u2) r p)
theorem de_ite (hc : DT X J env c c1) (ha : c1 = true → DE X J env a x) (hb : c1 = false → DE X J env b y) : DE X J env (.IfExp c a b pos) (if c1 = true then x else y) :=
  de_if hc (fun e => by subst e; rw [if_pos rfl]; exact ha rfl) (fun e => by subst e; rw [if_neg Bool.false_ne_true]; exact hb rfl)
end
end Sh
/-! Sh7: built-ins. -/
namespace Sh
open PySem PySem.Spec PyProof.Rows L2
open En (enc)
section
variable {X : Cx} {J : Jn} {env : List SL} {a b c e : Expr} {es : List Expr} {pos p : Pos} {k : Nat} {d x y : D} {n : Str} {id T : String} {r : List V → Hp → VK → Prop} {PA : List D → Prop} {P2 : D → Prop}
/-- a built-in function's call -/
theorem ep_callB (hc : CallR X (.builtin id) r) (hm : X.mg n = none) (hv : bootBuiltins n = some (.builtin id)) (ha : AP' X J env (e :: es) PA) (hr : RA X.K J r PA P2) (hg : Gl X n := by rfl) (hn : n ≠ "__name__" := by decide) (hdb : (n == ("__debug__" : Str)) = false := by decide)
    (he : starEach (e :: es) X.env = (false, eval e X.env) :: starEach es X.env := by rfl) (hpl : (backTo pos (starEach es X.env)).any (·.1) = false := by rfl) : EP' X J env (.Call (.Name n p) (e :: es) [] pos) P2 := fun G0 H0 σ H G Q s q =>
  wp_of (pe_callB hc hg hm hv pa_wp hn hdb he hpl) (ha G0 H0 σ H G _ s fun vs ds G1 H1 u al pa => hr vs ds G1 H1 Q (s.ext u).bs al pa fun w f G2 H2 u2 i2 p2 => q w f G2 H2 (u.trans u2) i2 p2)
theorem ep_callTy (hc : CallR X (.type T) r) (hm : X.mg n = none) (hv : bootBuiltins n = some (.type T)) (ha : AP' X J env (e :: es) PA) (hr : RA X.K J r PA P2) (hg : Gl X n := by rfl) (hn : n ≠ "__name__" := by decide) (hdb : (n == ("__debug__" : Str)) = false := by decide)
    (he : starEach (e :: es) X.env = (false, eval e X.env) :: starEach es X.env := by rfl) (hpl : (backTo pos (starEach es X.env)).any (·.1) = false := by rfl) : EP' X J env (.Call (.Name n p) (e :: es) [] pos) P2 := fun G0 H0 σ H G Q s q =>
  wp_of (pe_callTy hc hg hm hv pa_wp hn hdb he hpl) (ha G0 H0 σ H G _ s fun vs ds G1 H1 u al pa => hr vs ds G1 H1 Q (s.ext u).bs al pa fun w f G2 H2 u2 i2 p2 => q w f G2 H2 (u.trans u2) i2 p2)
theorem Sq.isAll {K : PySem.W.Frag} {G : Hp} {v : V} {d : D} {ds : List D} (h : Sq d ds) (r : Is K G v d) : ∃ a xs, v = .ref a ∧ (SqL K G a xs ∨ SqT K G a xs) ∧ IsAll K G xs ds := by
  cases h with
  | lst => obtain ⟨a, xs, e, h, al⟩ := r.lst_inv; exact ⟨a, xs, e, .inl (.inl (.inl h)), al⟩
  | tup => obtain ⟨a, xs, e, h, al⟩ := r.tup_inv; exact ⟨a, xs, e, .inr h, al⟩
theorem sq_same {K : PySem.W.Frag} {G H : Hp} {a : Addr} {xs : List V} (e : Same G H) (h : SqL K G a xs ∨ SqT K G a xs) : SqL K H a xs ∨ SqT K H a xs := by
  rcases h with h | h
  · exact .inl (e.seq h)
  · exact .inr (sqT_same e h)
theorem isAll1 {K : PySem.W.Frag} {G : Hp} {vs : List V} {d : D} (h : IsAll K G vs [d]) : ∃ v, vs = [v] ∧ Is K G v d := by
  cases h with
  | cons r t => cases t; exact ⟨_, rfl, r⟩
theorem isAll2 {K : PySem.W.Frag} {G : Hp} {vs : List V} {d e : D} (h : IsAll K G vs [d, e]) : ∃ v u, vs = [v, u] ∧ Is K G v d ∧ Is K G u e := by
  cases h with
  | cons r t => cases t with
    | cons r2 t2 => cases t2; exact ⟨_, _, rfl, r, r2⟩
/-- len(list or tuple) -/
theorem de_len {ds : List D} (hm : X.mg "len" = none) (ha : DE X J env a d) (hq : Sq d ds) (hg : Gl X "len" := by rfl) (he : starEach [a] X.env = (false, eval a X.env) :: starEach [] X.env := by rfl) (hpl : (backTo pos (starEach [] X.env)).any (·.1) = false := by rfl) : DE X J env (.Call (.Name "len" p) [a] [] pos) (.int (ds.length : Int)) := by
  refine ep_callB call_len_seq hm PySem.boot_len (da_cons ha da_nil (by exact he)) (fun vs ds' G H Q b al pa q => ?_) hg (by decide) (by decide) he hpl
  subst pa
  obtain ⟨v, rfl, r⟩ := isAll1 al
  obtain ⟨t, xs, rfl, h, al2⟩ := hq.isAll r
  exact ⟨t, xs, rfl, sq_same b.gh h, by rw [al2.len]; exact q _ _ G H (Up.refl b) (.int _) rfl⟩
/-- len(text) -/
theorem de_lenS {z : Str} (hm : X.mg "len" = none) (ha : DE X J env a (.str z)) (hz : z.length ≤ 1000) (hg : Gl X "len" := by rfl) (he : starEach [a] X.env = (false, eval a X.env) :: starEach [] X.env := by rfl) (hpl : (backTo pos (starEach [] X.env)).any (·.1) = false := by rfl) : DE X J env (.Call (.Name "len" p) [a] [] pos) (.int (z.length : Int)) := by
  refine ep_callB call_len_str hm PySem.boot_len (da_cons ha da_nil (by exact he)) (fun vs ds' G H Q b al pa q => ?_) hg (by decide) (by decide) he hpl
  subst pa
  obtain ⟨v, rfl, r⟩ := isAll1 al
  exact ⟨z, by rw [r.str_inv], Nat.le_trans hz (by decide), q _ _ G H (Up.refl b) (.int _) rfl⟩
theorem isAll_bl {K : PySem.W.Frag} {G : Hp} : ∀ {bs : List Bool} {vs : List V}, IsAll K G vs (bs.map D.bl) → vs = bs.map V.bl
  | [], _, .nil => rfl
  | b :: bs, _, .cons r t => by rw [r.bl_inv, isAll_bl t]; rfl
theorem isAll_int {K : PySem.W.Frag} {G : Hp} : ∀ {bs : List Int} {vs : List V}, IsAll K G vs (bs.map D.int) → vs = bs.map V.int
  | [], _, .nil => rfl
  | b :: bs, _, .cons r t => by rw [r.int_inv, isAll_int t]; rfl
theorem de_all {bs : List Bool} (hm : X.mg "all" = none) (ha : DE X J env a (.lst (bs.map .bl))) (hc : X.calm = true := by rfl) (hg : Gl X "all" := by rfl) (he : starEach [a] X.env = (false, eval a X.env) :: starEach [] X.env := by rfl) (hpl : (backTo pos (starEach [] X.env)).any (·.1) = false := by rfl) : DE X J env (.Call (.Name "all" p) [a] [] pos) (.bl (bs.all _root_.id)) := by
  refine ep_callB (cr_all hc) hm (by decide +kernel) (da_cons ha da_nil (by exact he)) (fun vs ds' G H Q b al pa q => ?_) hg (by decide) (by decide) he hpl
  subst pa
  obtain ⟨v, rfl, r⟩ := isAll1 al
  obtain ⟨t, xs, rfl, h, al2⟩ := r.lst_inv
  rw [isAll_bl al2] at h
  exact ⟨t, bs, rfl, .inl (.inl (b.gh _ _ h)), q _ _ G H (Up.refl b) (.bl _) rfl⟩
theorem de_any {bs : List Bool} (hm : X.mg "any" = none) (ha : DE X J env a (.lst (bs.map .bl))) (hc : X.calm = true := by rfl) (hg : Gl X "any" := by rfl) (he : starEach [a] X.env = (false, eval a X.env) :: starEach [] X.env := by rfl) (hpl : (backTo pos (starEach [] X.env)).any (·.1) = false := by rfl) : DE X J env (.Call (.Name "any" p) [a] [] pos) (.bl (bs.any _root_.id)) := by
  refine ep_callB (cr_any hc) hm (by decide +kernel) (da_cons ha da_nil (by exact he)) (fun vs ds' G H Q b al pa q => ?_) hg (by decide) (by decide) he hpl
  subst pa
  obtain ⟨v, rfl, r⟩ := isAll1 al
  obtain ⟨t, xs, rfl, h, al2⟩ := r.lst_inv
  rw [isAll_bl al2] at h
  exact ⟨t, bs, rfl, .inl (.inl (b.gh _ _ h)), q _ _ G H (Up.refl b) (.bl _) rfl⟩
/-- all([.. for x in xs]) -/
theorem de_allF {α : Type} {xs : List α} {g : α → Bool} (hm : X.mg "all" = none) (ha : DF X J env a (xs.map fun x => D.bl (g x))) (hc : X.calm = true := by rfl) (hg : Gl X "all" := by rfl) (he : starEach [a] X.env = (false, eval a X.env) :: starEach [] X.env := by rfl) (hpl : (backTo pos (starEach [] X.env)).any (·.1) = false := by rfl) : DE X J env (.Call (.Name "all" p) [a] [] pos) (.bl (xs.all g)) := by
  have h : (xs.map g).map D.bl = xs.map fun x => D.bl (g x) := by rw [List.map_map]; rfl
  have z := de_all (p := p) (pos := pos) (bs := xs.map g) hm (by rw [h]; exact de_fe ha) hc hg he hpl
  rwa [List.all_map] at z
theorem de_anyF {α : Type} {xs : List α} {g : α → Bool} (hm : X.mg "any" = none) (ha : DF X J env a (xs.map fun x => D.bl (g x))) (hc : X.calm = true := by rfl) (hg : Gl X "any" := by rfl) (he : starEach [a] X.env = (false, eval a X.env) :: starEach [] X.env := by rfl) (hpl : (backTo pos (starEach [] X.env)).any (·.1) = false := by rfl) : DE X J env (.Call (.Name "any" p) [a] [] pos) (.bl (xs.any g)) := by
  have h : (xs.map g).map D.bl = xs.map fun x => D.bl (g x) := by rw [List.map_map]; rfl
  have z := de_any (p := p) (pos := pos) (bs := xs.map g) hm (by rw [h]; exact de_fe ha) hc hg he hpl
  rwa [List.any_map] at z
/-- tuple(list) -/
theorem ep_tuple {P : List D → Prop} {P2 : D → Prop} (hm : X.mg "tuple" = none) (ha : EP' X J env a (fun d => ∃ ds, d = .lst ds ∧ P ds)) (k : ∀ ds, P ds → P2 (.tup ds)) (hg : Gl X "tuple" := by rfl) (he : starEach [a] X.env = (false, eval a X.env) :: starEach [] X.env := by rfl) (hpl : (backTo pos (starEach [] X.env)).any (·.1) = false := by rfl) : EP' X J env (.Call (.Name "tuple" p) [a] [] pos) P2 := by
  refine ep_callTy (PA := fun l => ∃ ds, l = [.lst ds] ∧ P ds) call_tuple_of hm (by decide +kernel) (ap_cons ha da_nil (fun d ds h e => ?_) (by exact he)) (fun vs ds' G H Q b al pa q => ?_) hg (by decide) (by decide) he hpl
  · obtain ⟨es, rfl, pe⟩ := h
    exact ⟨es, by rw [e], pe⟩
  · obtain ⟨ds, rfl, pd⟩ := pa
    obtain ⟨v, rfl, r⟩ := isAll1 al
    obtain ⟨t, xs, rfl, h, al2⟩ := r.lst_inv
    refine ⟨t, xs, rfl, .inl ⟨.inl (.inl (b.gh _ _ h)), fun l hl => ?_⟩⟩
    have u := Up.new b (o := .tup xs) hl
    exact q _ _ _ _ u (.tup (.inl (.inl upd_same)) (al2.mono u.g)) (k ds pd)
theorem de_tuple {ds : List D} (hm : X.mg "tuple" = none) (ha : DE X J env a (.lst ds)) (hg : Gl X "tuple" := by rfl) (he : starEach [a] X.env = (false, eval a X.env) :: starEach [] X.env := by rfl) (hpl : (backTo pos (starEach [] X.env)).any (·.1) = false := by rfl) : DE X J env (.Call (.Name "tuple" p) [a] [] pos) (.tup ds) :=
  ep_tuple (P := fun x => x = ds) hm (ha.imp fun d e => ⟨ds, e, rfl⟩) (fun _ e => by rw [e]) hg he hpl
/-- list(list or tuple): a new one -/
theorem df_list {ds : List D} (hm : X.mg "list" = none) (ha : DE X J env a d) (hq : Sq d ds) (hg : Gl X "list" := by rfl) (he : starEach [a] X.env = (false, eval a X.env) :: starEach [] X.env := by rfl) (hpl : (backTo pos (starEach [] X.env)).any (·.1) = false := by rfl) : DF X J env (.Call (.Name "list" p) [a] [] pos) ds := fun G0 H0 σ H G Q s q => by
  refine wp_of (pe_callTy call_list_of hg hm (by decide +kernel) (pa_cons pe_wp pa_nil (by exact he)) (by decide) (by decide) he hpl) ?_
  refine ha G0 H0 σ H G _ s fun v d' G1 H1 u r p => ?_
  subst p
  obtain ⟨t, xs, rfl, h, al⟩ := hq.isAll r
  refine ⟨t, xs, rfl, sq_same u.gh h, fun l hl => ?_⟩
  have s1 := s.ext u
  have hH : H l = none := by
    cases z : H l with
    | none => rfl
    | some o => exact absurd hl (u.fr l (by rw [z]; simp))
  exact q l xs ds G1 _ (u.trans (Up.newH s1.bs hl)) hH (s1.bs.gh.free hl) upd_same al rfl
/-! ### slices -/
abbrev wpO (X : Cx) (e : Option Expr) : TO := fun σ H Q => ∀ pins s, Inv X pins σ H s → wpAny (model X.prog X.w) X.A (evalPart e X.env) (fun u s' => ∃ o H', Inv X pins σ H' s' ∧ IsPart u o ∧ Q o H') X.xe s
def cutD {α : Type} (xs : List α) (lo hi : Option Int) : List α := (xs.drop (HT.sIx xs.length 0 lo)).take (HT.sIx xs.length xs.length hi - HT.sIx xs.length 0 lo)
theorem isAll_cut {K : PySem.W.Frag} {G : Hp} {vs : List V} {ds : List D} (h : IsAll K G vs ds) (lo hi : Option Int) : IsAll K G (cutV vs lo hi) (cutD ds lo hi) := by
  unfold cutV cutD
  rw [h.len]
  exact (h.drop _).take _
theorem cutD_map {α β : Type} (f : α → β) (xs : List α) (lo hi : Option Int) : cutD (xs.map f) lo hi = (cutD xs lo hi).map f := by
  unfold cutD
  rw [List.length_map, List.map_take, List.map_drop]
/-- a part of a slice -/
structure DP (X : Cx) (J : Jn) (env : List SL) (e : Option Expr) (o : Option Int) : Prop where
  ex : ∃ t : TO, PO X e t ∧ ∀ (G0 H0 : Hp) (σ : L2.St) (H G : Hp) (Q : Option Int → Hp → Prop), StG X.K J G0 H0 env σ H G → (∀ G1 H1, Up J G H G1 H1 → Q o H1) → t σ H Q
theorem po0 : DP X J env none none := ⟨_, po_none, fun _ _ σ H G Q s q => q G H (Up.refl s.bs)⟩
theorem po1 {i : Int} (h : DE X J env e (.int i)) : DP X J env (some e) (some i) := ⟨_, po_some pe_wp, fun G0 H0 σ H G Q s q => h G0 H0 σ H G _ s fun v d G1 H1 u r p => by
  subst p
  exact ⟨i, r.int_inv, q G1 H1 u⟩⟩
variable {lo hi : Option Expr} {l u : Option Int} {p2 : Pos}
theorem de_slT {ds : List D} (ha : DE X J env a (.tup ds)) (hl : DP X J env lo l) (hu : DP X J env hi u) : DE X J env (.Subscript a (.Slice lo hi none p2) pos) (.tup (cutD ds l u)) := fun G0 H0 σ H G Q s q => by
  obtain ⟨tl, pl, kl⟩ := hl.ex
  obtain ⟨th, ph, kh⟩ := hu.ex
  refine wp_of (pe_slice sl_tupA pe_wp pl ph) ?_
  refine ha G0 H0 σ H G _ s fun v d G1 H1 u1 r p => ?_
  subst p
  refine kl G0 H0 σ H1 G1 _ (s.ext u1) fun G2 H2 u2 => ?_
  refine kh G0 H0 σ H2 G2 _ ((s.ext u1).ext u2) fun G3 H3 u3 => ?_
  have s3 := ((s.ext u1).ext u2).ext u3
  have r3 := (r.mono u2.g).mono u3.g
  obtain ⟨t, xs, rfl, ht, al⟩ := r3.tup_inv
  refine ⟨t, xs, rfl, sqT_same s3.bs.gh ht, fun w => ?_, fun _ pn hp => ?_⟩
  · have e : cutD ds l u = ds := by
      unfold cutD
      rw [al.len] at w
      rw [w.1, w.2, List.drop_zero, Nat.sub_zero, List.take_length]
    exact q _ _ G3 H3 ((u1.trans u2).trans u3) r3 (by rw [e])
  · have u4 := Up.new s3.bs (o := .tup (cutV xs l u)) hp
    exact q _ _ _ _ (((u1.trans u2).trans u3).trans u4) (.tup (.inl (.inl upd_same)) ((isAll_cut al l u).mono u4.g)) rfl
theorem df_slL {ds : List D} (ha : DE X J env a (.lst ds)) (hl : DP X J env lo l) (hu : DP X J env hi u) : DF X J env (.Subscript a (.Slice lo hi none p2) pos) (cutD ds l u) := fun G0 H0 σ H G Q s q => by
  obtain ⟨tl, pl, kl⟩ := hl.ex
  obtain ⟨th, ph, kh⟩ := hu.ex
  refine wp_of (pe_slice sl_list pe_wp pl ph) ?_
  refine ha G0 H0 σ H G _ s fun v d G1 H1 u1 r p => ?_
  subst p
  refine kl G0 H0 σ H1 G1 _ (s.ext u1) fun G2 H2 u2 => ?_
  refine kh G0 H0 σ H2 G2 _ ((s.ext u1).ext u2) fun G3 H3 u3 => ?_
  have s3 := ((s.ext u1).ext u2).ext u3
  have r3 := (r.mono u2.g).mono u3.g
  have u13 := (u1.trans u2).trans u3
  obtain ⟨t, xs, rfl, ht, al⟩ := r3.lst_inv
  refine ⟨t, xs, rfl, .inl (.inl (s3.bs.gh _ _ ht)), fun pn hp => ?_⟩
  have hH : H pn = none := by
    cases z : H pn with
    | none => rfl
    | some o => exact absurd hp (u13.fr pn (by rw [z]; simp))
  exact q pn _ _ G3 _ (u13.trans (Up.newH s3.bs hp)) hH (s3.bs.gh.free hp) upd_same (isAll_cut al l u) rfl
/-! ### isinstance -/
def tyD : D → Option String
  | .non => some "NoneType"
  | .bl _ => some "bool"
  | .int _ => some "int"
  | .str _ => some "str"
  | .lst _ => some "list"
  | .tup _ => some "tuple"
  | .dct _ => none
  | .raw _ => none
  | .ptup _ => none
theorem ty_of {K : PySem.W.Frag} {G H : Hp} {v : V} {d : D} {n : String} (r : Is K G v d) (e : tyD d = some n) (gh : Same G H) : TyX K H v (.type n) := by
  cases r with
  | non => cases e; exact .base .non
  | bl b => cases e; exact .base (.bl b)
  | int b => cases e; exact .base (.int b)
  | str b => cases e; exact .base (.str b)
  | lst h _ => cases e; exact .base (.lst (gh _ _ h))
  | tup h _ =>
    cases e
    rcases h with (h | ⟨o, h⟩) | ⟨o, its, n, h, c, _⟩
    · exact .base (.tup (gh _ _ h))
    · exact .fTuple (gh _ _ h)
    · exact .kTuple h c
  | dct _ _ => cases e
  | raw v => cases e
  | ptup _ _ _ => cases e
/-- a built-in type as a value -/
theorem de_bty {n : Str} {T : String} (hm : X.mg n = none) (hv : bootBuiltins n = some (.type T)) (hg : Gl X n := by rfl) (hn : n ≠ "__name__" := by decide) (hd : (n == ("__debug__" : Str)) = false := by decide) : DE X J env (.Name n pos) (.raw (.ty T)) := de_c (pe_bltn (v := .ty T) hg hm hv rfl hn hd) fun _ => .raw _
theorem de_isi {T n : String} {r : Bool} (hm : X.mg "isinstance" = none) (ha : DE X J env a d) (hb : DE X J env b (.raw (.ty T))) (ht : tyD d = some n) (hk : kitB n T = some r) (hg : Gl X "isinstance" := by rfl) (he : starEach [a, b] X.env = (false, eval a X.env) :: starEach [b] X.env := by rfl) (he2 : starEach [b] X.env = (false, eval b X.env) :: starEach [] X.env := by rfl)
    (hpl : (backTo pos (starEach [b] X.env)).any (·.1) = false := by rfl) : DE X J env (.Call (.Name "isinstance" p) [a, b] [] pos) (.bl r) := by
  refine ep_callB call_isi hm (by decide +kernel) (da_cons ha (da_cons hb da_nil (by exact he2)) (by exact he)) (fun vs ds' G H Q b al pa q => ?_) hg (by decide) (by decide) he hpl
  subst pa
  obtain ⟨v, u, rfl, r1, r2⟩ := isAll2 al
  exact ⟨v, .ty T, .type n, .type T, r, by rw [r2.raw_inv], .ty T, ty_of r1 ht b.gh, kit_ty hk, q _ _ G H (Up.refl b) (.bl _) rfl⟩
/-! ### signs -/
theorem de_inS {c : Nat} {z : Str} (ha : DE X J env a (.str ⟨#[c]⟩)) (hb : DE X J env b (.str z)) (hm : behindInMarks .In b = false := by rfl) : DE X J env (.Compare a [.In] [b] pos) (.bl (decide (c ∈ z.cps.toList))) :=
  ep_cmp op_in_sign (P := (· = .str ⟨#[c]⟩)) (P1 := (· = .str z)) (fun v u d e G H Q b r1 r2 p1 p2 q => by
    subst p1 p2
    exact ⟨c, z, r1.str_inv, r2.str_inv, q _ _ G H (Up.refl b) (.bl _) rfl⟩) ha hb hm
theorem de_ninS {c : Nat} {z : Str} (ha : DE X J env a (.str ⟨#[c]⟩)) (hb : DE X J env b (.str z)) (hm : behindInMarks .NotIn b = false := by rfl) : DE X J env (.Compare a [.NotIn] [b] pos) (.bl (!decide (c ∈ z.cps.toList))) :=
  ep_cmp op_notIn_sign (P := (· = .str ⟨#[c]⟩)) (P1 := (· = .str z)) (fun v u d e G H Q b r1 r2 p1 p2 q => by
    subst p1 p2
    exact ⟨c, z, r1.str_inv, r2.str_inv, q _ _ G H (Up.refl b) (.bl _) rfl⟩) ha hb hm
theorem de_ixS {z : Str} {i : Int} {c : Nat} (ha : DE X J env a (.str z)) (hb : DE X J env b (.int i)) (hz : z.length ≤ 1000) (h : atI z.cps.toList i = some c) (hs : PlainIx b := by exact fun _ _ => rfl) : DE X J env (.Subscript a b pos) (.str ⟨#[c]⟩) :=
  ep_ix ix_str (P := (· = .str z)) (P1 := (· = .int i)) (fun v u d e G H Q b r1 r2 p1 p2 q => by
    subst p1 p2
    exact ⟨z, i, c, r1.str_inv, r2.int_inv, Nat.le_trans hz (by decide), h, q _ _ G H (Up.refl b) (.str _) rfl⟩) ha hb hs
end
end Sh
/-! Sh8: new things stored in slots, several at once. -/
namespace Sh
open PySem PySem.Spec PyProof.Rows L2
open En (enc)
structure StA (K : PySem.W.Frag) (J : Jn) (G0 H0 : Hp) (env : List SL) (σ : L2.St) (H G : Hp) (ad : Nat → List Addr) : Prop where
  up : Up J G0 H0 G H
  al0 : ∀ a, J.M a → H0 a ≠ none ∧ G0 a = none
  len : σ.length = env.length
  sl : ∀ i s, env[i]? = some s → SlOk K H0 G H σ[i]? (ad i) s
  dj : ∀ i j a, i ≠ j → a ∈ ad i → a ∈ ad j → False
  out : ∀ i, env.length ≤ i → ad i = []
section
variable {K : PySem.W.Frag} {J : Jn} {G0 H0 G H G1 H1 : Hp} {env : List SL} {σ : L2.St} {ad : Nat → List Addr}
theorem StG.toA (s : StG K J G0 H0 env σ H G) : ∃ ad, StA K J G0 H0 env σ H G ad := by
  obtain ⟨ad, h1, h2, h3⟩ := s.sl
  exact ⟨ad, s.up, s.al0, s.len, h1, h2, h3⟩
theorem StA.toG (s : StA K J G0 H0 env σ H G ad) : StG K J G0 H0 env σ H G := ⟨s.up, s.al0, s.len, ad, s.sl, s.dj, s.out⟩
theorem StA.live (s : StA K J G0 H0 env σ H G ad) {i : Nat} {a : Addr} (h : a ∈ ad i) : H a ≠ none := by
  by_cases hi : i < env.length
  · exact (s.sl i _ (List.getElem?_eq_getElem hi)).live a h
  · rw [s.out i (by omega)] at h; cases h
theorem StA.ext (s : StA K J G0 H0 env σ H G ad) (u : Up J G H G1 H1) : StA K J G0 H0 env σ H1 G1 ad := by
  refine ⟨s.up.trans u, s.al0, s.len, fun i sl e => ?_, s.dj, s.out⟩
  have q := s.sl i sl e
  cases sl with
  | no => exact q
  | d x => obtain ⟨e1, v, e2, r⟩ := q; exact ⟨e1, v, e2, r.mono u.g⟩
  | own w =>
    obtain ⟨p, e2, r, f⟩ := q
    have hm : ∀ a ∈ ad i, ¬ J.M a := fun a ha m => (s.al0 a m).1 (f a ha).1
    exact ⟨p, e2, r.ext u.g fun a ha o ho => u.h a o (hm a ha) ho, fun a ha => ⟨(f a ha).1, u.hid a (f a ha).2 (r.live a ha)⟩⟩
theorem StA.set (s : StA K J G0 H0 env σ H G ad) (i : Nat) {v : V} {x : SL} {as : List Addr} (r : SlOk K H0 G H (some (some v)) as x) (nw : ∀ j, j ≠ i → ∀ a ∈ as, a ∉ ad j) : ∃ ad', StA K J G0 H0 (env.set i x) (σ.set i (some v)) H G ad' ∧ ∀ j, ad' j = ad j ∨ (j = i ∧ ad' j = as) := by
  by_cases hi : i < env.length
  · refine ⟨put ad i as, ⟨s.up, s.al0, by rw [List.length_set, List.length_set]; exact s.len, fun j sl e => ?_, fun j k a n m1 m2 => ?_, fun j hj => ?_⟩, fun j => ?_⟩
    · by_cases q : j = i
      · subst q
        rw [List.getElem?_set_self hi] at e
        cases e
        rw [put_same, List.getElem?_set_self (by rw [s.len]; exact hi)]
        exact r
      · rw [List.getElem?_set_ne (Ne.symm q)] at e
        rw [put_ne q, List.getElem?_set_ne (Ne.symm q)]
        exact s.sl j sl e
    · by_cases q : j = i
      · subst q
        rw [put_same] at m1
        rw [put_ne (Ne.symm n)] at m2
        exact nw k (Ne.symm n) a m1 m2
      · rw [put_ne q] at m1
        by_cases q2 : k = i
        · subst q2
          rw [put_same] at m2
          exact nw j q a m2 m1
        · rw [put_ne q2] at m2
          exact s.dj j k a n m1 m2
    · rw [List.length_set] at hj
      rw [put_ne (by omega)]; exact s.out j hj
    · by_cases q : j = i
      · right; subst q; exact ⟨rfl, put_same⟩
      · left; exact put_ne q
  · rw [List.set_eq_of_length_le (show env.length ≤ i by omega), List.set_eq_of_length_le (show σ.length ≤ i by rw [s.len]; omega)]
    exact ⟨ad, s, fun j => .inl rfl⟩
/-- a value just made stands for what a slot is to hold -/
def NewOk (K : PySem.W.Frag) (G H : Hp) (v : V) (as : List Addr) : SL → Prop
  | .no => False
  | .d x => as = [] ∧ Is K G v x
  | .own w => ∃ p, v = .ref p ∧ OwOk K G H p as w
theorem NewOk.slot {v : V} {as : List Addr} {x : SL} (h : NewOk K G H v as x) (f : ∀ a ∈ as, H0 a = none ∧ G a = none) : SlOk K H0 G H (some (some v)) as x := by
  cases x with
  | no => exact h.elim
  | d x => exact ⟨h.1, v, rfl, h.2⟩
  | own w => obtain ⟨p, rfl, r⟩ := h; exact ⟨p, rfl, r, f⟩
theorem NewOk.live {v : V} {as : List Addr} {x : SL} (h : NewOk K G H v as x) : ∀ a ∈ as, H a ≠ none := fun a ha => by
  cases x with
  | no => exact h.elim
  | d x => rw [h.1] at ha; cases ha
  | own w => obtain ⟨p, rfl, r⟩ := h; exact r.live a ha
theorem NewOk.ext {v : V} {as : List Addr} {x : SL} (h : NewOk K G H v as x) (u : Up J G H G1 H1) (hm : ∀ a ∈ as, ¬ J.M a) : NewOk K G1 H1 v as x := by
  cases x with
  | no => exact h
  | d x => exact ⟨h.1, h.2.mono u.g⟩
  | own w => obtain ⟨p, rfl, r⟩ := h; exact ⟨p, rfl, r.ext u.g fun a ha o ho => u.h a o (hm a ha) ho⟩
/-- several of them, apart -/
inductive NewAll (K : PySem.W.Frag) (G H : Hp) : List V → List (List Addr) → List SL → Prop
  | nil : NewAll K G H [] [] []
  | cons {v : V} {as : List Addr} {x : SL} {vs : List V} {ass : List (List Addr)} {xs : List SL} : NewOk K G H v as x → (∀ bs ∈ ass, ∀ a ∈ as, a ∉ bs) → NewAll K G H vs ass xs → NewAll K G H (v :: vs) (as :: ass) (x :: xs)
/-- stored from the left -/
def setSl : List SL → List Nat → List SL → List SL
  | env, i :: is, x :: xs => setSl (env.set i x) is xs
  | env, _, _ => env
def setV : L2.St → List Nat → List V → L2.St
  | σ, i :: is, v :: vs => setV (σ.set i (some v)) is vs
  | σ, _, _ => σ
theorem StA.many : ∀ {is : List Nat} {vs : List V} {ass : List (List Addr)} {xs : List SL} {env : List SL} {σ : L2.St} {ad : Nat → List Addr}, StA K J G0 H0 env σ H G ad → NewAll K G H vs ass xs → (∀ as ∈ ass, ∀ a ∈ as, H0 a = none ∧ G a = none) → (∀ j, ∀ as ∈ ass, ∀ a ∈ as, a ∉ ad j) →
    StG K J G0 H0 (setSl env is xs) (setV σ is vs) H G
  | [], _, _, _, _, _, _, s, .nil, _, _ => s.toG
  | [], _, _, _, _, _, _, s, .cons _ _ _, _, _ => s.toG
  | _ :: _, _, _, _, _, _, _, s, .nil, _, _ => s.toG
  | i :: is, _, _, _, _, _, ad, s, .cons (as := as) r dj t, f, nw => by
    obtain ⟨ad', s', h⟩ := s.set i (r.slot (f _ List.mem_cons_self)) fun j _ a ha => nw j _ List.mem_cons_self a ha
    refine StA.many (is := is) s' t (fun bs hb => f bs (List.mem_cons_of_mem _ hb)) fun j bs hb a ha m => ?_
    rcases h j with e | ⟨_, e⟩
    · rw [e] at m; exact nw j bs (List.mem_cons_of_mem _ hb) a ha m
    · rw [e] at m; exact dj bs hb a m ha
end
/-- e comes to what a slot is to hold -/
def SE' (X : Cx) (J : Jn) (env : List SL) (e : Expr) (P : SL → Prop) : Prop := ∀ (G0 H0 : Hp) (σ : L2.St) (H G : Hp) (Q : VK), StG X.K J G0 H0 env σ H G →
  (∀ v x as G1 H1, Up J G H G1 H1 → NewOk X.K G1 H1 v as x → (∀ a ∈ as, H a = none ∧ G1 a = none) → P x → Q v H1) → wpE X e σ H Q
abbrev DSE (X : Cx) (J : Jn) (env : List SL) (e : Expr) (x : SL) : Prop := SE' X J env e (fun y => y = x)
def AS' (X : Cx) (J : Jn) (env : List SL) (es : List Expr) (P : List SL → Prop) : Prop := ∀ (G0 H0 : Hp) (σ : L2.St) (H G : Hp) (Q : List V → Hp → Prop), StG X.K J G0 H0 env σ H G →
  (∀ vs xs ass G1 H1, Up J G H G1 H1 → NewAll X.K G1 H1 vs ass xs → (∀ as ∈ ass, ∀ a ∈ as, H a = none ∧ G1 a = none) → P xs → Q vs H1) → wpA X es σ H Q
abbrev DAS (X : Cx) (J : Jn) (env : List SL) (es : List Expr) (xs : List SL) : Prop := AS' X J env es (fun y => y = xs)
section
variable {X : Cx} {J : Jn} {env : List SL} {e : Expr} {es : List Expr} {pos : Pos} {Φ : List SL → Prop} {Ψ : D → Prop}
theorem se_ep {P : D → Prop} {P2 : SL → Prop} (h : EP' X J env e P) (k : ∀ d, P d → P2 (.d d)) : SE' X J env e P2 := fun G0 H0 σ H G Q s q => h G0 H0 σ H G Q s fun v d G1 H1 u r p => q v (.d d) [] G1 H1 u ⟨rfl, r⟩ (fun a ha => by cases ha) (k d p)
theorem se_fe {P : List D → Prop} {P2 : SL → Prop} (h : FE' X J env e P) (k : ∀ ds, P ds → P2 (.own (.lst ds))) : SE' X J env e P2 := fun G0 H0 σ H G Q s q => h G0 H0 σ H G Q s fun p vs ds G1 H1 u hp hg h1 al pd =>
  q (.ref p) (.own (.lst ds)) [p] G1 H1 u ⟨p, rfl, rfl, vs, h1, al⟩ (fun a ha => by rw [List.mem_singleton.mp ha]; exact ⟨hp, hg⟩) (k ds pd)
theorem se_d {d : D} (h : DE X J env e d) : DSE X J env e (.d d) := se_ep h fun _ e => by rw [e]
theorem se_f {ds : List D} (h : DF X J env e ds) : DSE X J env e (.own (.lst ds)) := se_fe h fun _ e => by rw [e]
theorem as_nil : DAS X J env [] [] := fun _ _ σ H G Q s q => wpA_of pa_nil (q [] [] [] G H (Up.refl s.bs) .nil (fun _ h => by cases h) rfl)
theorem as_cons {P : SL → Prop} {Ps P2 : List SL → Prop} (h : SE' X J env e P) (hs : AS' X J env es Ps) (k : ∀ x xs, P x → Ps xs → P2 (x :: xs)) (he : starEach (e :: es) X.env = (false, eval e X.env) :: starEach es X.env := by rfl) : AS' X J env (e :: es) P2 := fun G0 H0 σ H G Q s q =>
  wpA_of (pa_cons pe_wp pa_wp he) (h G0 H0 σ H G _ s fun v x as G1 H1 u1 r1 f1 p1 => hs G0 H0 σ H1 G1 _ (s.ext u1) fun vs xs ass G2 H2 u2 r2 f2 p2 => by
    have hm : ∀ a ∈ as, ¬ J.M a := fun a ha m => (s.bs.al a m).1 (f1 a ha).1
    refine q (v :: vs) (x :: xs) (as :: ass) G2 H2 (u1.trans u2) (.cons (r1.ext u2 hm) (fun bs hb a ha hc => ?_) r2) (fun bs hb a ha => ?_) (k x xs p1 p2)
    · exact r1.live a ha (f2 bs hb a hc).1
    · rcases List.mem_cons.mp hb with z | z
      · rw [z] at ha
        exact ⟨(f1 a ha).1, u2.hid a (f1 a ha).2 (r1.live a ha)⟩
      · refine ⟨?_, (f2 bs z a ha).2⟩
        cases y : H a with
        | none => rfl
        | some o => exact absurd (f2 bs z a ha).1 (u1.fr a (by rw [y]; simp)))
theorem das_cons {x : SL} {xs : List SL} (h : DSE X J env e x) (hs : DAS X J env es xs) (he : starEach (e :: es) X.env = (false, eval e X.env) :: starEach es X.env := by rfl) : DAS X J env (e :: es) (x :: xs) := as_cons h hs (fun _ _ e1 e2 => by rw [e1, e2]) he
theorem up_fresh0 {J : Jn} {G0 H0 G H : Hp} (u : Up J G0 H0 G H) {a : Addr} (h : H a = none) : H0 a = none := by
  cases y : H0 a with
  | none => rfl
  | some o => exact absurd h (u.fr a (by rw [y]; simp))
/-- stored after the evaluation -/
theorem store_many {K : PySem.W.Frag} {G0 H0 G H G1 H1 : Hp} {σ : L2.St} {vs : List V} {ass : List (List Addr)} {xs : List SL} (s : StG K J G0 H0 env σ H G) (u : Up J G H G1 H1) (r : NewAll K G1 H1 vs ass xs) (f : ∀ as ∈ ass, ∀ a ∈ as, H a = none ∧ G1 a = none) (is : List Nat) :
    StG K J G0 H0 (setSl env is xs) (setV σ is vs) H1 G1 := by
  obtain ⟨ad, sa⟩ := s.toA
  exact StA.many (sa.ext u) r (fun as ha a h => ⟨up_fresh0 s.up (f as ha a h).1, (f as ha a h).2⟩) fun j as ha a h m => sa.live m (f as ha a h).1
/-- x = e -/
theorem ds_setS {i : Nat} {n : Str} {pos' : Pos} {P : SL → Prop} (he : SE' X J env e P) (hN : X.N.Nodup) (k : ∀ x, P x → Φ (env.set i x)) (hi : X.N[i]? = some n := by rfl) (hx : Loc X.env.scope n := by first | exact Or.inl rfl | exact Or.inr rfl) (hs : swapsWith e (some (.Name n pos')) pos.line X.env = pure false := by rfl)
    (hf : X.fn n = true ∨ X.env.scope.names.lookup n = some .local := by first | exact .inl rfl | exact .inr rfl | assumption) : DS X J env (.Assign [.Name n pos'] e pos) Φ Ψ := fun G0 H0 σ H G Dn s q r =>
  wpS_of (ps_set hN hi hx pe_wp hs hf) (he G0 H0 σ H G _ s fun v x as G1 H1 u r f p => q _ _ H1 G1 (k x p) (store_many s u (.cons r (fun _ h => by cases h) .nil) (fun bs hb a ha => by rw [List.mem_singleton.mp hb] at ha; exact f a ha) [i]))
/-- a, b = e1, e2 with two local names -/
theorem ds_par {i j : Nat} {x y : Str} {a b : Expr} {px py pt : Pos} {kt k2 pt2} {P : List SL → Prop} (h : AS' X J env [a, b] P) (hN : X.N.Nodup) (k : ∀ xs, P xs → ∃ u v, xs = [u, v] ∧ Φ ((env.set i u).set j v)) (hij : i ≠ j := by decide) (hc : X.calm = true := by rfl) (hi : X.N[i]? = some x := by rfl) (hj : X.N[j]? = some y := by rfl)
    (hx : X.env.scope.names.lookup x = some .local := by rfl) (hy : X.env.scope.names.lookup y = some .local := by rfl) (hw : swappedStores [.Tuple [.Name x px, .Name y py] kt pt] (.Tuple [a, b] k2 pt2) X.env = pure (some [x, y]) := by rfl)
    (hs : swapsWithSole [.Tuple [.Name x px, .Name y py] kt pt] (.Tuple [a, b] k2 pt2) pos.line X.env = pure false := by rfl) : DS X J env (.Assign [.Tuple [.Name x px, .Name y py] kt pt] (.Tuple [a, b] k2 pt2) pos) Φ Ψ := fun G0 H0 σ H G Dn s q r =>
  wpS_of (ps_par hc hN hi hj hij hx hy pa_wp hw hs) (h G0 H0 σ H G _ s fun vs xs ass G1 H1 u rr f p => by
    obtain ⟨x1, x2, rfl, p2⟩ := k xs p
    have st := store_many s u rr f [i, j]
    cases rr with
    | cons r1 d1 t1 => cases t1 with
      | cons r2 d2 t2 =>
        cases t2
        exact ⟨_, _, rfl, q _ _ H1 G1 p2 st⟩)
theorem ds_par3 {i j l : Nat} {x y z : Str} {a b c : Expr} {px py pz pt : Pos} {kt k2 pt2} {P : List SL → Prop} (h : AS' X J env [a, b, c] P) (hN : X.N.Nodup) (k : ∀ xs, P xs → ∃ u v w, xs = [u, v, w] ∧ Φ (((env.set i u).set j v).set l w)) (hij : i ≠ j := by decide) (hil : i ≠ l := by decide) (hjl : j ≠ l := by decide) (hc : X.calm = true := by rfl) (hi : X.N[i]? = some x := by rfl) (hj : X.N[j]? = some y := by rfl) (hl : X.N[l]? = some z := by rfl)
    (hx : X.env.scope.names.lookup x = some .local := by rfl) (hy : X.env.scope.names.lookup y = some .local := by rfl) (hz : X.env.scope.names.lookup z = some .local := by rfl) (hw : swappedStores [.Tuple [.Name x px, .Name y py, .Name z pz] kt pt] (.Tuple [a, b, c] k2 pt2) X.env = pure (some [x, y, z]) := by rfl)
    (hs : swapsWithSole [.Tuple [.Name x px, .Name y py, .Name z pz] kt pt] (.Tuple [a, b, c] k2 pt2) pos.line X.env = pure false := by rfl) : DS X J env (.Assign [.Tuple [.Name x px, .Name y py, .Name z pz] kt pt] (.Tuple [a, b, c] k2 pt2) pos) Φ Ψ := fun G0 H0 σ H G Dn s q r =>
  wpS_of (ps_par3 hc hN hi hj hl hij hil hjl hx hy hz pa_wp hw hs) (h G0 H0 σ H G _ s fun vs xs ass G1 H1 u rr f p => by
    obtain ⟨x1, x2, x3, rfl, p2⟩ := k xs p
    have st := store_many s u rr f [i, j, l]
    cases rr with
    | cons r1 d1 t1 => cases t1 with
      | cons r2 d2 t2 => cases t2 with
        | cons r3 d3 t3 =>
          cases t3
          exact ⟨_, _, _, rfl, q _ _ H1 G1 p2 st⟩)
theorem gNames_run {Q : L2.St → Hp → Prop} {H : Hp} : ∀ (is : List Nat) (vs : List V) (σ : L2.St), vs.length = is.length → Q (setV σ is vs) H → gNames is vs σ H Q
  | [], [], σ, _, q => ⟨rfl, q⟩
  | [], _ :: _, _, e, _ => by cases e
  | _ :: _, [], _, e, _ => by cases e
  | i :: is, v :: vs, σ, e, q => ⟨v, vs, rfl, gNames_run is vs _ (by simpa using e) q⟩
theorem NewAll.len {K : PySem.W.Frag} {G H : Hp} : ∀ {vs : List V} {ass : List (List Addr)} {xs : List SL}, NewAll K G H vs ass xs → vs.length = xs.length
  | _, _, _, .nil => rfl
  | _, _, _, .cons _ _ t => congrArg (· + 1) (NewAll.len t)
/-- a, b, .. = e1, e2, ..: a tuple made and taken apart -/
theorem ds_unp {is : List Nat} {ts : List Expr} {kt k2 : _} {pt pt2 : Pos} {P : List SL → Prop} (h : AS' X J env es P) (k : ∀ xs, P xs → xs.length = is.length ∧ Φ (setSl env is xs)) (hg : PG X (.Tuple ts kt pt) ((Tgt.tp is).g X.K)) (hl : is.length ≤ 1000 := by decide)
    (hs : swapsWithSole [.Tuple ts kt pt] (.Tuple es k2 pt2) pos.line X.env = pure false := by rfl) (hw : swappedStores [.Tuple ts kt pt] (.Tuple es k2 pt2) X.env = pure none := by rfl) (h1 : (assignEach [.Tuple ts kt pt] X.env).map (·.2) = [assign (.Tuple ts kt pt) X.env] := by rfl) :
    DS X J env (.Assign [.Tuple ts kt pt] (.Tuple es k2 pt2) pos) Φ Ψ := fun G0 H0 σ H G Dn s q r =>
  wpS_of (ps_asg (pe_tup pa_wp) hg hs hw h1) (h G0 H0 σ H G _ s fun vs xs ass G1 H1 u rr f p => by
    obtain ⟨k1, k2⟩ := k xs p
    have st := store_many s u rr f is
    have hlen : vs.length = is.length := by rw [rr.len, k1]
    refine ⟨by rw [hlen]; exact Nat.le_trans hl (by decide), fun pn hp => ?_⟩
    have st2 := st.ext (Up.newH (s.ext u).bs (o := .tup vs) hp)
    exact ⟨pn, vs, rfl, .inl (.inl upd_same), hlen, gNames_run is vs σ hlen (q _ _ _ _ k2 st2)⟩)
/-- a, b, .. = e, e a tuple of data -/
theorem ds_unpD {is : List Nat} {ts : List Expr} {kt : _} {pt : Pos} {P : List D → Prop} (h : EP' X J env e (fun d => ∃ ds, d = .tup ds ∧ P ds)) (k : ∀ ds, P ds → ds.length = is.length ∧ Φ (setAll env is ds)) (hg : PG X (.Tuple ts kt pt) ((Tgt.tp is).g X.K))
    (hs : swapsWithSole [.Tuple ts kt pt] e pos.line X.env = pure false := by rfl) (hw : swappedStores [.Tuple ts kt pt] e X.env = pure none := by rfl) (h1 : (assignEach [.Tuple ts kt pt] X.env).map (·.2) = [assign (.Tuple ts kt pt) X.env] := by rfl) :
    DS X J env (.Assign [.Tuple ts kt pt] e pos) Φ Ψ := fun G0 H0 σ H G Dn s q r =>
  wpS_of (ps_asg pe_wp hg hs hw h1) (h G0 H0 σ H G _ s fun v d G1 H1 u i p => by
    obtain ⟨ds, rfl, pd⟩ := p
    obtain ⟨k1, k2⟩ := k ds pd
    exact tgt_run (s.ext u) i (.tp is ds env k1) fun σ' _ s' => q _ _ _ _ k2 s')
end
end Sh
/-! Sh9: dicts whose keys are words. -/
namespace Sh
open PySem PySem.Spec PyProof.Rows L2
open En (enc)
abbrev kW (w : W) : Key := Sum.inr w.s
def wd {α : Type} (kvs : List (W × α)) : List (Key × α) := kvs.map fun p => (kW p.1, p.2)
def lookW {α : Type} (kvs : List (W × α)) (w : W) : Option α := (kvs.find? fun p => decide (p.1 = w)).map (·.2)
def putW {α : Type} (kvs : List (W × α)) (w : W) (x : α) : List (W × α) := if (kvs.any fun p => decide (p.1 = w)) = true then kvs.map (fun p => if p.1 = w then (p.1, x) else p) else kvs ++ [(w, x)]
theorem kW_iff {a b : W} : kW a = kW b ↔ a = b := ⟨fun h => W.s_inj (Sum.inr.inj h), fun h => by rw [h]⟩
theorem kW_dec {a b : W} : decide (kW a = kW b) = decide (a = b) := by
  by_cases h : a = b
  · rw [decide_eq_true h, decide_eq_true (kW_iff.mpr h)]
  · rw [decide_eq_false h, decide_eq_false (fun z => h (kW_iff.mp z))]
section
variable {K : PySem.W.Frag} {G H : Hp}
theorem lookW_nil {α : Type} {w : W} : lookW ([] : List (W × α)) w = none := rfl
theorem lookW_cons {α : Type} {p : W × α} {r : List (W × α)} {w : W} : lookW (p :: r) w = if p.1 = w then some p.2 else lookW r w := by
  unfold lookW
  rw [List.find?_cons]
  by_cases h : p.1 = w
  · simp [h]
  · simp [h]
theorem lookW_some_mem {α : Type} {kvs : List (W × α)} {w : W} {x : α} (h : lookW kvs w = some x) : (w, x) ∈ kvs := by
  induction kvs with
  | nil => cases h
  | cons p r ih =>
    rw [lookW_cons] at h
    by_cases e : p.1 = w
    · rw [if_pos e] at h
      cases h
      rw [← e]
      exact List.mem_cons_self
    · rw [if_neg e] at h
      exact List.mem_cons_of_mem _ (ih h)
theorem lookW_of_mem {α : Type} {kvs : List (W × α)} {w : W} {x : α} (nd : (kvs.map (·.1)).Nodup) (h : (w, x) ∈ kvs) : lookW kvs w = some x := by
  induction kvs with
  | nil => cases h
  | cons p r ih =>
    rw [lookW_cons]
    rw [List.map_cons, List.nodup_cons] at nd
    rcases List.mem_cons.mp h with e | h
    · rw [← e]; simp
    · rw [if_neg fun e => nd.1 (by rw [e]; exact List.mem_map.mpr ⟨_, h, rfl⟩)]
      exact ih nd.2 h
theorem isKV_val : ∀ {kvs : List (W × D)} {vs : List (Key × V)} {w : W} {d : D}, IsKV K G vs (wd kvs) → lookW kvs w = some d → ∃ v, valV vs (kW w) = some v ∧ Is K G v d
  | [], _, _, _, _, h => by cases h
  | p :: r, _, w, d, .cons (v := v) q t, h => by
    rw [lookW_cons] at h
    by_cases e : p.1 = w
    · rw [if_pos e] at h
      cases h
      refine ⟨v, ?_, q⟩
      rw [← e]
      exact valV_pos (p := (kW p.1, v)) rfl
    · rw [if_neg e] at h
      obtain ⟨v', h1, h2⟩ := isKV_val t h
      refine ⟨v', ?_, h2⟩
      rw [valV_neg (p := (kW p.1, v)) (fun z => e (kW_iff.mp z))]
      exact h1
theorem isKV_any : ∀ {kvs : List (W × D)} {vs : List (Key × V)} {w : W}, IsKV K G vs (wd kvs) → (vs.any fun kv => decide (kv.1 = kW w)) = kvs.any fun p => decide (p.1 = w)
  | [], _, _, .nil => rfl
  | p :: r, _, w, .cons (v := v) q t => by
    rw [List.any_cons, List.any_cons, isKV_any t]
    show (decide (kW p.1 = kW w) || _) = _
    rw [kW_dec]
theorem isKV_repl {w : W} {v : V} {d : D} (r : Is K G v d) : ∀ {kvs : List (W × D)} {vs : List (Key × V)}, IsKV K G vs (wd kvs) → IsKV K G (vs.map fun kv => if kv.1 = kW w then (kv.1, v) else kv) (wd (kvs.map fun p => if p.1 = w then (p.1, d) else p))
  | [], _, .nil => .nil
  | p :: _, _, .cons (v := u) q t => by
    have ih := isKV_repl (w := w) r t
    rw [List.map_cons]
    by_cases e : p.1 = w
    · rw [if_pos (show (kW p.1, u).1 = kW w from kW_iff.mpr e)]
      rw [List.map_cons, if_pos e]
      exact .cons r ih
    · rw [if_neg (show ¬ (kW p.1, u).1 = kW w from fun z => e (kW_iff.mp z))]
      rw [List.map_cons, if_neg e]
      exact .cons q ih
theorem isKV_snoc {w : W} {v : V} {d : D} (r : Is K G v d) : ∀ {kvs : List (W × D)} {vs : List (Key × V)}, IsKV K G vs (wd kvs) → IsKV K G (vs ++ [(kW w, v)]) (wd (kvs ++ [(w, d)]))
  | [], _, .nil => .cons r .nil
  | _ :: _, _, .cons q t => .cons q (isKV_snoc r t)
theorem isKV_put {w : W} {v : V} {d : D} (r : Is K G v d) {kvs : List (W × D)} {vs : List (Key × V)} (h : IsKV K G vs (wd kvs)) : IsKV K G (putK vs (kW w) v) (wd (putW kvs w d)) := by
  unfold putK putW
  rw [isKV_any h]
  by_cases c : (kvs.any fun p => decide (p.1 = w)) = true
  · rw [if_pos c, if_pos c]; exact isKV_repl r h
  · rw [if_neg c, if_neg c]; exact isKV_snoc r h
theorem isKV_len : ∀ {kvs : List (Key × D)} {vs : List (Key × V)}, IsKV K G vs kvs → vs.length = kvs.length
  | [], _, .nil => rfl
  | _ :: _, _, .cons _ t => congrArg (· + 1) (isKV_len t)
theorem wd_len {α : Type} (kvs : List (W × α)) : (wd kvs).length = kvs.length := List.length_map ..
theorem putW_new {α : Type} {kvs : List (W × α)} {w : W} (x : α) (h : w ∉ kvs.map (·.1)) : putW kvs w x = kvs ++ [(w, x)] := by
  unfold putW
  rw [if_neg]
  intro z
  rw [List.any_eq_true] at z
  obtain ⟨p, hp, e⟩ := z
  exact h (List.mem_map.mpr ⟨p, hp, of_decide_eq_true e⟩)
theorem foldl_putW {α : Type} : ∀ (ps acc : List (W × α)), ((acc ++ ps).map (·.1)).Nodup → ps.foldl (fun acc q => putW acc q.1 q.2) acc = acc ++ ps
  | [], acc, _ => by simp
  | p :: ps, acc, nd => by
    have h : p.1 ∉ acc.map (·.1) := by
      rw [List.map_append, List.map_cons, List.nodup_append] at nd
      intro z
      exact nd.2.2 _ z _ List.mem_cons_self rfl
    rw [List.foldl_cons, putW_new p.2 h, foldl_putW ps (acc ++ [(p.1, p.2)]) (by simpa using nd)]
    simp
theorem putW_len {α : Type} (kvs : List (W × α)) (w : W) (x : α) : (putW kvs w x).length ≤ kvs.length + 1 := by
  unfold putW
  split
  · rw [List.length_map]; omega
  · rw [List.length_append, List.length_cons, List.length_nil]; omega
end
section
variable {X : Cx} {J : Jn} {env : List SL} {kx vx tg iter a b : Expr} {ifs : List Expr} {scope : Scope} {own : List (Str × Nat)} {pos : Pos} {t : Tgt} {k : Nat}
/-- {k: v for ..} -/
theorem dc_read {α : Type} {xs : List α} {f : α → D} {p : α → Bool} {kw : α → W} {g : α → D} {env' : α → List SL} (hi : DI X J env tg iter (xs.map f)) (hsl : ∀ i ∈ t.slots, i ∈ own.map (·.2))
    (he' : ∀ x, TSt t (f x) (wipeE env (own.map (·.2))) (env' x)) (ht : blkX X scope fun X' => ∀ x ∈ xs, DTs X' J (env' x) ifs (p x)) (hk : blkX X scope fun X' => ∀ x ∈ xs, p x = true → DE X' J (env' x) kx (enc (kw x))) (hel : blkX X scope fun X' => ∀ x ∈ xs, p x = true → DE X' J (env' x) vx (g x))
    (hl : xs.length < sizeLine) {G0 H0 : Hp} {σ : L2.St} {H G : Hp} {Q : VK} (s : StG X.K J G0 H0 env σ H G)
    (q : ∀ p' vs G1 H1, Up J G H G1 H1 → H p' = none → G1 p' = none → H1 p' = some (.dK vs) → IsKV X.K G1 vs (wd (((xs.filter p).map fun x => (kw x, g x)).foldl (fun acc q => putW acc q.1 q.2) [])) → Q (.ref p') H1) :
    tDc (wpI X tg iter) (t.g X.K) (ttB X ifs scope) (teB X kx scope) (teB X vx scope) (own.map (·.2)) σ H Q := by
  refine hi G0 H0 σ H G _ s fun T ds G1 H1 u1 it eds => ?_
  subst eds
  intro D hD
  have s1 := s.ext u1
  have b1 := s1.bs
  have hHD : H D = none := by
    cases z : H D with
    | none => rfl
    | some o => exact absurd hD (u1.fr D (by rw [z]; simp))
  have hGD : G1 D = none := b1.gh.free hD
  let R : Nat → List (W × Sh.D) := fun i => (((xs.take i).filter p).map fun x => (kw x, g x)).foldl (fun acc q => putW acc q.1 q.2) []
  have Rl : ∀ i, (R i).length ≤ ((xs.take i).filter p).length := fun i => by
    have key : ∀ (ps acc : List (W × Sh.D)), (ps.foldl (fun acc q => putW acc q.1 q.2) acc).length ≤ acc.length + ps.length := by
      intro ps
      induction ps with
      | nil => intro acc; exact Nat.le_refl _
      | cons q ps ih => intro acc; rw [List.foldl_cons]; have := ih (putW acc q.1 q.2); have := putW_len acc q.1 q.2; rw [List.length_cons]; omega
    have := key (((xs.take i).filter p).map fun x => (kw x, g x)) []
    rw [List.length_map] at this
    simpa using this
  refine ⟨fun i m H' => m = xs.length - i ∧ i ≤ xs.length ∧ ∃ G' vs, Up J G1 H1 G' H' ∧ G' D = none ∧ H' D = some (.dK vs) ∧ IsKV X.K G' vs (wd (R i)), ⟨_, rfl, Nat.zero_le _, G1, [], Up.newH b1 hD, hGD, upd_same, .nil⟩, ?_⟩
  rintro i m H' ⟨rfl, hi', G', vs, u, gd, hd, al⟩
  have b' := b1.up u
  have s' := s1.ext u
  by_cases hlt : i < xs.length
  · right
    have hx : xs[i]? = some xs[i] := List.getElem?_eq_getElem hlt
    refine ⟨it.go i H' G' u.g b' (by rw [List.length_map]; exact hlt), fun H'' => ∃ G'' vs, Up J G1 H1 G'' H'' ∧ G'' D = none ∧ H'' D = some (.dK vs) ∧ IsKV X.K G'' vs (wd (R (i + 1))), fun H'' z => ⟨_, by omega, rfl, hlt, z⟩, fun x H2 hy => ?_⟩
    obtain ⟨G2, d, u2, ed, r⟩ := it.yld i H' G' x H2 u.g b' (by rw [List.length_map]; exact hlt) hy
    rw [List.getElem?_map, hx] at ed
    cases ed
    have s2 := (s'.ext u2).wipe (own.map (·.2))
    refine tgt_run s2 r (he' xs[i]) fun σ2 hw s3 => ⟨?_, ?_⟩
    · rw [hw _ hsl, wipe_wipe]
    · intro sh Hh C cl fp
      refine ht sh Hh C cl fp xs[i] (List.getElem_mem hlt) G0 H0 σ2 H2 G2 _ s3 fun G3 H3 u3 => ?_
      have u13 : Up J G1 H1 G3 H3 := (u.trans u2).trans u3
      have live : H' D ≠ none := by rw [hd]; simp
      have nm : ¬ J.M D := fun m => (b1.al D m).1 hD
      have hd3 : H3 D = some (.dK vs) := u3.h D _ nm (u2.h D _ nm hd)
      have gd3 : G3 D = none := u3.hid D (u2.hid D gd live) (u2.fr D live)
      by_cases hp : p xs[i] = true
      · rw [if_pos hp]
        intro sh Hh C cl fp
        refine hk sh Hh C cl fp xs[i] (List.getElem_mem hlt) hp G0 H0 σ2 H3 G3 _ (s3.ext u3) fun v d G4 H4 u4 r4 e4 => ?_
        subst e4
        intro sh Hh C cl fp
        refine hel sh Hh C cl fp xs[i] (List.getElem_mem hlt) hp G0 H0 σ2 H4 G4 _ ((s3.ext u3).ext u4) fun z d G5 H5 u5 r5 e5 => ?_
        subst e5
        have hd5 : H5 D = some (.dK vs) := u5.h D _ nm (u4.h D _ nm hd3)
        have gd5 : G5 D = none := u5.hid D (u4.hid D gd3 (by rw [hd3]; simp)) (u4.fr D (by rw [hd3]; simp))
        have al5 := (((al.mono u2.g).mono u3.g).mono u4.g).mono u5.g
        have hlen : vs.length < sizeLine := by
          rw [isKV_len al, wd_len]
          exact Nat.lt_of_le_of_lt (Nat.le_trans (Rl i) (Nat.le_trans (List.length_filter_le _ _) (by rw [List.length_take]; omega))) hl
        refine ⟨vs, kW (kw xs[i]), r4.str_inv, hd5, hlen, G5, _, ((u13.trans u4).trans u5).mut b1 hD gd5, gd5, upd_same, ?_⟩
        have eR : R (i + 1) = putW (R i) (kw xs[i]) (g xs[i]) := by
          show List.foldl _ _ _ = _
          rw [take_succ_of hx, List.filter_append, List.map_append, List.filter_cons_of_pos (by exact hp), List.foldl_append]
          rfl
        rw [eR]
        exact isKV_put r5 al5
      · rw [if_neg hp]
        refine ⟨G3, vs, u13, gd3, hd3, ?_⟩
        have eR : R (i + 1) = R i := by
          show List.foldl _ _ _ = _
          rw [take_succ_of hx, List.filter_append, List.map_append, List.filter_cons_of_neg (by exact hp), List.filter_nil, List.map_nil, List.append_nil]
        rw [eR]
        exact (al.mono u2.g).mono u3.g
  · left
    have e : i = xs.length := by omega
    subst e
    have eR : R xs.length = ((xs.filter p).map fun x => (kw x, g x)).foldl (fun acc q => putW acc q.1 q.2) [] := by
      show List.foldl _ _ _ = _
      rw [List.take_length]
    rw [eR] at al
    exact ⟨it.stop _ H' G' u.g b' (by rw [List.length_map]), q D vs G' H' (u1.trans u) hHD gd hd al⟩
/-- as data, keys unlike -/
theorem de_dc {α : Type} {xs : List α} {f : α → D} {p : α → Bool} {kw : α → W} {g : α → D} {env' : α → List SL} (hi : DI X J env tg iter (xs.map f)) (hc : X.calm = true) (hN : X.N.Nodup) (ok : BlkOk X.N X.env.scope scope own) (hsl : ∀ i ∈ t.slots, i ∈ own.map (·.2))
    (hg : blkX X scope fun X' => PG X' tg (t.g X'.K)) (he' : ∀ x, TSt t (f x) (wipeE env (own.map (·.2))) (env' x)) (ht : blkX X scope fun X' => ∀ x ∈ xs, DTs X' J (env' x) ifs (p x)) (hk : blkX X scope fun X' => ∀ x ∈ xs, p x = true → DE X' J (env' x) kx (enc (kw x))) (hel : blkX X scope fun X' => ∀ x ∈ xs, p x = true → DE X' J (env' x) vx (g x))
    (hl : xs.length < sizeLine) (nd : ((xs.filter p).map kw).Nodup) (hs : ∀ x, foldedSetIterable iter X.env x = pure x := by intro _; rfl) : DE X J env (.DictComp kx vx [⟨tg, iter, ifs, 0⟩] scope pos) (.dct (wd ((xs.filter p).map fun x => (kw x, g x)))) := fun G0 H0 σ H G Q s q => by
  refine wp_of (pe_dc (wi := wpI X tg iter) (g := t.g X.K) (tt := ttB X ifs scope) (tk := teB X kx scope) (tv := teB X vx scope) hc hN pi_wp ok hg (fun s' H' C cl fp => ⟨fun pins st σ H Q I h => h s' H' C cl fp pins st I⟩) (fun s' H' C cl fp => ⟨fun pins st σ H Q I h => h s' H' C cl fp pins st I⟩) (fun s' H' C cl fp => ⟨fun pins st σ H Q I h => h s' H' C cl fp pins st I⟩) hs) ?_
  refine dc_read hi hsl he' ht hk hel hl s fun p' vs G1 H1 u h1 h2 h3 al => ?_
  have e : (((xs.filter p).map fun x => (kw x, g x)).foldl (fun acc q => putW acc q.1 q.2) []) = (xs.filter p).map fun x => (kw x, g x) := by
    have z := foldl_putW ((xs.filter p).map fun x => (kw x, g x)) [] (by rw [List.nil_append, List.map_map]; exact nd)
    rw [List.nil_append] at z
    exact z
  rw [e] at al
  exact q _ _ (upd G1 p' (.dK vs)) H1 (u.show h1 h2 h3) (.dct (.inl upd_same) (al.mono fun a o y => by rw [upd_ne (ne_of_none y h2)]; exact y)) rfl
/-- d[k], d data -/
theorem de_dget {kvs : List (W × D)} {w : W} {d : D} (hr : Room k X.A) (ha : DE X J env a (.dct (wd kvs))) (hb : DE X J env b (enc w)) (h : lookW kvs w = some d) (hs : NoSl b := by exact fun _ _ => rfl) : DE X J env (.Subscript a b pos) d := fun G0 H0 σ H G Q s q =>
  wp_of (pe_dget (hu_of hr) pe_wp pe_wp hs) (ha G0 H0 σ H G _ s fun v d1 G1 H1 u1 r1 p1 => by
    subst p1
    refine hb G0 H0 σ H1 G1 _ (s.ext u1) fun v2 d2 G2 H2 u2 r2 p2 => ?_
    subst p2
    obtain ⟨p, vs, rfl, hd, al⟩ := (r1.mono u2.g).dct_inv
    obtain ⟨x, hx, r⟩ := isKV_val al h
    exact ⟨p, x, rfl, .inl ⟨vs, kW w, rd_same ((s.ext u1).ext u2).bs.gh hd, r2.str_inv, hx.symm⟩, q x d G2 H2 (u1.trans u2) r rfl⟩)
end
end Sh
/-! Sh10: a dict of lists of its own: made by a comprehension, its lists changed by place. -/
namespace Sh
open PySem PySem.Spec PyProof.Rows L2
open En (enc)
section
variable {K : PySem.W.Frag} {G H : Hp}
theorem dl_keys : ∀ {kvs : List (W × List D)} {vs : List (Key × V)} {qs : List Addr} {w : W}, DlOk K G H vs qs (wd kvs) → w ∉ kvs.map (·.1) → valV vs (kW w) = none
  | [], _, _, _, .nil, _ => rfl
  | p :: r, _, _, w, .cons (q := q) h a t, n => by
    rw [List.map_cons, List.mem_cons, not_or] at n
    rw [valV_neg (p := (kW p.1, V.ref q)) (fun z => n.1 (kW_iff.mp z).symm)]
    exact dl_keys t n.2
theorem dl_snoc {w : W} {q : Addr} {ws : List V} {xs : List D} (h : H q = some (.lst ws)) (a : IsAll K G ws xs) : ∀ {kvs : List (W × List D)} {vs : List (Key × V)} {qs : List Addr}, DlOk K G H vs qs (wd kvs) → DlOk K G H (vs ++ [(kW w, .ref q)]) (qs ++ [q]) (wd (kvs ++ [(w, xs)]))
  | [], _, _, .nil => .cons h a .nil
  | _ :: _, _, _, .cons h' a' t => .cons h' a' (dl_snoc h a t)
theorem dl_len : ∀ {kvs : List (Key × List D)} {vs : List (Key × V)} {qs : List Addr}, DlOk K G H vs qs kvs → vs.length = kvs.length
  | [], _, _, .nil => rfl
  | _ :: _, _, _, .cons _ _ t => congrArg (· + 1) (dl_len t)
/-- the list of a key, and what stands when it is changed -/
theorem dl_at : ∀ {kvs : List (W × List D)} {vs : List (Key × V)} {qs : List Addr} {w : W} {xs : List D}, DlOk K G H vs qs (wd kvs) → qs.Nodup → (kvs.map (·.1)).Nodup → lookW kvs w = some xs →
    ∃ q ws, valV vs (kW w) = some (.ref q) ∧ q ∈ qs ∧ H q = some (.lst ws) ∧ IsAll K G ws xs ∧ ∀ (ws' : List V) (xs' : List D), IsAll K G ws' xs' → DlOk K G (upd H q (.lst ws')) vs qs (wd (putW kvs w xs'))
  | [], _, _, _, _, _, _, _, h => by cases h
  | p :: r, _, _, w, xs, .cons (q := q) (ws := ws) (vs := vs) (qs := qs) h a t, nq, nk, hl => by
    rw [lookW_cons] at hl
    rw [List.map_cons, List.nodup_cons] at nk
    rw [List.nodup_cons] at nq
    have stay : ∀ (q2 : Addr) (o : HO), q2 ∉ qs → DlOk K G (upd H q2 o) vs qs (wd r) := fun q2 o hn => t.mono (Same.refl G) fun b hb x hx => by rw [upd_ne (fun z => hn (by rw [← z]; exact hb))]; exact hx
    by_cases e : p.1 = w
    · rw [if_pos e] at hl
      cases hl
      refine ⟨q, ws, ?_, List.mem_cons_self, h, a, fun ws' xs' a' => ?_⟩
      · rw [← e]; exact valV_pos (p := (kW p.1, V.ref q)) rfl
      · have hr : putW (p :: r) w xs' = (p.1, xs') :: r := by
          unfold putW
          rw [if_pos (by rw [List.any_cons, decide_eq_true e, Bool.true_or]), List.map_cons, if_pos e]
          congr 1
          have : ∀ x ∈ r, (if x.1 = w then (x.1, xs') else x) = x := fun x hx => if_neg fun z => nk.1 (by rw [e, ← z]; exact List.mem_map.mpr ⟨x, hx, rfl⟩)
          rw [List.map_congr_left this, List.map_id']
        rw [hr]
        exact .cons upd_same a' (stay q _ nq.1)
    · rw [if_neg e] at hl
      obtain ⟨q2, ws2, h1, h2, h3, h4, h5⟩ := dl_at t nq.2 nk.2 hl
      have ne : q ≠ q2 := fun z => nq.1 (by rw [z]; exact h2)
      refine ⟨q2, ws2, ?_, List.mem_cons_of_mem _ h2, h3, h4, fun ws' xs' a' => ?_⟩
      · rw [valV_neg (p := (kW p.1, V.ref q)) (fun z => e (kW_iff.mp z))]; exact h1
      · have hr : putW (p :: r) w xs' = p :: putW r w xs' := by
          unfold putW
          rw [List.any_cons, decide_eq_false e, Bool.false_or]
          by_cases c : (r.any fun p => decide (p.1 = w)) = true
          · rw [if_pos c, if_pos c, List.map_cons, if_neg e]
          · rw [if_neg c, if_neg c]; rfl
        rw [hr]
        exact .cons (by rw [upd_ne ne]; exact h) a (h5 ws' xs' a')
end
section
variable {X : Cx} {J : Jn} {env : List SL} {kx vx tg iter a b e : Expr} {ifs : List Expr} {scope : Scope} {own : List (Str × Nat)} {pos : Pos} {t : Tgt} {k : Nat} {Φ : List SL → Prop} {Ψ : D → Prop}
theorem dcl_read {α : Type} {xs : List α} {f : α → D} {p : α → Bool} {kw : α → W} {g : α → List D} {env' : α → List SL} (hi : DI X J env tg iter (xs.map f)) (hsl : ∀ i ∈ t.slots, i ∈ own.map (·.2))
    (he' : ∀ x, TSt t (f x) (wipeE env (own.map (·.2))) (env' x)) (ht : blkX X scope fun X' => ∀ x ∈ xs, DTs X' J (env' x) ifs (p x)) (hk : blkX X scope fun X' => ∀ x ∈ xs, p x = true → DE X' J (env' x) kx (enc (kw x))) (hel : blkX X scope fun X' => ∀ x ∈ xs, p x = true → DF X' J (env' x) vx (g x))
    (hl : xs.length < sizeLine) (nd : ((xs.filter p).map kw).Nodup) {G0 H0 : Hp} {σ : L2.St} {H G : Hp} {Q : VK} (s : StG X.K J G0 H0 env σ H G)
    (q : ∀ p' as G1 H1, Up J G H G1 H1 → OwOk X.K G1 H1 p' as (.dl (wd ((xs.filter p).map fun x => (kw x, g x)))) → (∀ a ∈ as, H a = none ∧ G1 a = none) → Q (.ref p') H1) :
    tDc (wpI X tg iter) (t.g X.K) (ttB X ifs scope) (teB X kx scope) (teB X vx scope) (own.map (·.2)) σ H Q := by
  refine hi G0 H0 σ H G _ s fun T ds G1 H1 u1 it eds => ?_
  subst eds
  intro D hD
  have s1 := s.ext u1
  have b1 := s1.bs
  have hHD : H D = none := up_fresh0 u1 hD
  have hGD : G1 D = none := b1.gh.free hD
  let R : Nat → List (W × List Sh.D) := fun i => ((xs.take i).filter p).map fun x => (kw x, g x)
  refine ⟨fun i m H' => m = xs.length - i ∧ i ≤ xs.length ∧ ∃ G' vs qs, Up J G1 H1 G' H' ∧ G' D = none ∧ H' D = some (.dK vs) ∧ DlOk X.K G' H' vs qs (wd (R i)) ∧ (D :: qs).Nodup ∧ ∀ q ∈ qs, H1 q = none ∧ G' q = none, ⟨_, rfl, Nat.zero_le _, G1, [], [], Up.newH b1 hD, hGD, upd_same, .nil, by simp, fun q h => by cases h⟩, ?_⟩
  rintro i m H' ⟨rfl, hi', G', vs, qs, u, gd, hd, dl, ndq, fq⟩
  have b' := b1.up u
  have s' := s1.ext u
  by_cases hlt : i < xs.length
  · right
    have hx : xs[i]? = some xs[i] := List.getElem?_eq_getElem hlt
    refine ⟨it.go i H' G' u.g b' (by rw [List.length_map]; exact hlt), fun H'' => ∃ G'' vs qs, Up J G1 H1 G'' H'' ∧ G'' D = none ∧ H'' D = some (.dK vs) ∧ DlOk X.K G'' H'' vs qs (wd (R (i + 1))) ∧ (D :: qs).Nodup ∧ ∀ q ∈ qs, H1 q = none ∧ G'' q = none, fun H'' z => ⟨_, by omega, rfl, hlt, z⟩, fun x H2 hy => ?_⟩
    obtain ⟨G2, d, u2, ed, r⟩ := it.yld i H' G' x H2 u.g b' (by rw [List.length_map]; exact hlt) hy
    rw [List.getElem?_map, hx] at ed
    cases ed
    have s2 := (s'.ext u2).wipe (own.map (·.2))
    refine tgt_run s2 r (he' xs[i]) fun σ2 hw s3 => ⟨?_, ?_⟩
    · rw [hw _ hsl, wipe_wipe]
    · intro sh Hh C cl fp
      refine ht sh Hh C cl fp xs[i] (List.getElem_mem hlt) G0 H0 σ2 H2 G2 _ s3 fun G3 H3 u3 => ?_
      have u13 : Up J G1 H1 G3 H3 := (u.trans u2).trans u3
      have u23 := u2.trans u3
      have nm : ∀ {q : Addr}, H1 q = none → ¬ J.M q := fun h m => (b1.al _ m).1 h
      -- what stood of ours stands
      have carry : ∀ {GA HA : Hp}, Up J G' H' GA HA → GA D = none ∧ HA D = some (.dK vs) ∧ DlOk X.K GA HA vs qs (wd (R i)) ∧ ∀ q ∈ qs, H1 q = none ∧ GA q = none := fun {GA HA} ua =>
        ⟨ua.hid D gd (by rw [hd]; simp), ua.h D _ (nm hD) hd, dl.mono ua.g fun q hq o ho => ua.h q o (nm (fq q hq).1) ho, fun q hq => ⟨(fq q hq).1, ua.hid q (fq q hq).2 (dl.live q hq)⟩⟩
      by_cases hp : p xs[i] = true
      · rw [if_pos hp]
        intro sh Hh C cl fp
        refine hk sh Hh C cl fp xs[i] (List.getElem_mem hlt) hp G0 H0 σ2 H3 G3 _ (s3.ext u3) fun v d G4 H4 u4 r4 e4 => ?_
        subst e4
        intro sh Hh C cl fp
        refine hel sh Hh C cl fp xs[i] (List.getElem_mem hlt) hp G0 H0 σ2 H4 G4 _ ((s3.ext u3).ext u4) fun q5 ws d G5 H5 u5 hq5 gq5 h5 a5 e5 => ?_
        subst e5
        have u4' := u23.trans u4
        have u5' := u4'.trans u5
        obtain ⟨c1, c2, c3, c4⟩ := carry u5'
        obtain ⟨c1', c2', c3', c4'⟩ := carry u4'
        have ne5 : q5 ≠ D := fun z => by rw [z] at hq5; rw [c2'] at hq5; cases hq5
        have nq5 : q5 ∉ qs := fun z => c3'.live q5 z hq5
        have f1 : H1 q5 = none := up_fresh0 (u.trans u4') hq5
        have hlen : vs.length < sizeLine := by
          rw [dl_len dl, wd_len, List.length_map]
          exact Nat.lt_of_le_of_lt (Nat.le_trans (List.length_filter_le _ _) (by rw [List.length_take]; omega)) hl
        have nk : kw xs[i] ∉ (R i).map (·.1) := by
          intro z
          have e2 : (xs.take (i + 1)).filter p = (xs.take i).filter p ++ [xs[i]] := by rw [take_succ_of hx, List.filter_append, List.filter_cons_of_pos (by exact hp)]; rfl
          have n2 : (((xs.take (i + 1)).filter p).map kw).Nodup := by
            have sub : List.Sublist (((xs.take (i + 1)).filter p).map kw) ((xs.filter p).map kw) := ((List.take_sublist _ _).filter p).map kw
            exact List.Sublist.nodup sub nd
          rw [e2, List.map_append, List.nodup_append] at n2
          have z2 : kw xs[i] ∈ ((xs.take i).filter p).map kw := by
            have z3 : kw xs[i] ∈ ((((xs.take i).filter p).map fun x => (kw x, g x)).map (·.1)) := z
            rw [List.map_map] at z3
            exact z3
          exact n2.2.2 _ z2 _ List.mem_cons_self rfl
        refine ⟨vs, kW (kw xs[i]), r4.str_inv, c2, hlen, G5, vs ++ [(kW (kw xs[i]), .ref q5)], qs ++ [q5], (u.trans u5').mut b1 hD c1, c1, ?_, ?_, ?_, fun q hq => ?_⟩
        · rw [upd_same, putK_new _ (dl_keys c3 nk)]
        · have eR : R (i + 1) = R i ++ [(kw xs[i], g xs[i])] := by
            show List.map _ _ = _
            rw [take_succ_of hx, List.filter_append, List.map_append, List.filter_cons_of_pos (by exact hp)]
            rfl
          rw [eR]
          refine (dl_snoc h5 a5 c3).mono (Same.refl _) fun q hq o ho => ?_
          have nqD : q ≠ D := by
            rcases List.mem_append.mp hq with z | z
            · exact fun y => (List.nodup_cons.mp ndq).1 (by rw [← y]; exact z)
            · rw [List.mem_singleton.mp z]; exact ne5
          rw [upd_ne nqD]
          exact ho
        · rw [← List.cons_append, List.nodup_append]
          refine ⟨ndq, by simp, fun x hx y hy z => ?_⟩
          rw [List.mem_singleton.mp hy] at z
          rcases List.mem_cons.mp hx with y' | y'
          · exact ne5 (z.symm.trans y')
          · exact nq5 (by rw [← z]; exact y')
        · rcases List.mem_append.mp hq with z | z
          · exact c4 q z
          · rw [List.mem_singleton.mp z]; exact ⟨f1, gq5⟩
      · rw [if_neg hp]
        obtain ⟨c1, c2, c3, c4⟩ := carry u23
        refine ⟨G3, vs, qs, u13, c1, c2, ?_, ndq, c4⟩
        have eR : R (i + 1) = R i := by
          show List.map _ _ = _
          rw [take_succ_of hx, List.filter_append, List.map_append, List.filter_cons_of_neg (by exact hp), List.filter_nil, List.map_nil, List.append_nil]
        rw [eR]
        exact c3
  · left
    have e : i = xs.length := by omega
    subst e
    have eR : R xs.length = (xs.filter p).map fun x => (kw x, g x) := by
      show List.map _ _ = _
      rw [List.take_length]
    rw [eR] at dl
    refine ⟨it.stop _ H' G' u.g b' (by rw [List.length_map]), q D (D :: qs) G' H' (u1.trans u) ⟨vs, qs, rfl, ndq, hd, dl⟩ fun a ha => ?_⟩
    rcases List.mem_cons.mp ha with z | z
    · rw [z]; exact ⟨hHD, gd⟩
    · exact ⟨up_fresh0 u1 (fq a z).1, (fq a z).2⟩
/-- name = {k: v for ..} on one line, the name a local -/
theorem ps_setDc {i : Nat} {y : Str} {py spos : Pos} {wi : TI} {gt : TG} {tt : TT} {tk tv : TE} (hc : X.calm = true) (hN : X.N.Nodup) (hy : X.N[i]? = some y) (hyl : X.env.scope.names.lookup y = some .local) (hsw : swapsWith (.DictComp kx vx [⟨tg, iter, ifs, 0⟩] scope pos) (some (.Name y py)) spos.line X.env = pure true)
    (hi : PI X tg iter wi) (ok : BlkOk X.N X.env.scope scope own) (hg : blkX X scope fun X' => PG X' tg gt) (ht : blkX X scope fun X' => PTs X' ifs tt) (hk : blkX X scope fun X' => PE X' kx tk) (he : blkX X scope fun X' => PE X' vx tv) (hs : ∀ x, foldedSetIterable iter X.env x = pure x) :
    PS X (.Assign [.Name y py] (.DictComp kx vx [⟨tg, iter, ifs, 0⟩] scope pos) spos) (tAsg (tDc wi gt tt tk tv (own.map (·.2))) (gName i)) := by
  refine ⟨fun pins s σ H Dn I h => ?_⟩
  have h' : tDc wi gt tt tk tv (own.map (·.2)) σ H (fun x H1 => gName i x σ H1 Dn.nx) := h
  rw [exec_Assign_Name_used _ _ _ _ hsw]
  refine wpAny_bind (wpAny_standAt (wpAny_bind (wpAny_bind (thn (dc_core (Qf := fun _ s' => SP X pins Dn .next s') (use := some (assign (.Name y py) X.env)) hc hN I hi ok hg ht hk he hs h' fun Da C s' m H' I' q hn f => ?_) fun _ s' hq => wpAny_pure (wpAny_pure hq)))))
  obtain ⟨f0, f1, f2, f3, f4, f5⟩ := f
  show wpAny _ _ (assign (.Name y py) X.env (.ref Da)) _ _ _
  refine wpAny_assign_Name (store_ok2 (v := V.ref Da) I' hN hy (.inl hyl) rfl (fun s2 I2 ⟨a2, sb, hor⟩ => ?_) (.inr hyl))
  have nea : C ≠ a2 := by
    rcases hor with z | z
    · rw [z]; exact f1
    · exact fun e => f4 y a2 z e.symm
  exact ⟨m, hn.sameBut sb nea, fun h3 sb3 => ⟨_, H', I2.turned (t' := s2.toks) (fun b2 o hb e => (sb3.2 b2 hb).trans e) f0 f1 f3 f4 f5, q⟩⟩
/-- .. with lists of its own -/
theorem ds_setDl {α : Type} {xs : List α} {f : α → D} {p : α → Bool} {kw : α → W} {g : α → List D} {env' : α → List SL} {i : Nat} {y : Str} {py spos : Pos} (hi : DI X J env tg iter (xs.map f)) (hN : X.N.Nodup) (ok : BlkOk X.N X.env.scope scope own) (hsl : ∀ i ∈ t.slots, i ∈ own.map (·.2))
    (hg : blkX X scope fun X' => PG X' tg (t.g X'.K)) (he' : ∀ x, TSt t (f x) (wipeE env (own.map (·.2))) (env' x)) (ht : blkX X scope fun X' => ∀ x ∈ xs, DTs X' J (env' x) ifs (p x)) (hk : blkX X scope fun X' => ∀ x ∈ xs, p x = true → DE X' J (env' x) kx (enc (kw x))) (hel : blkX X scope fun X' => ∀ x ∈ xs, p x = true → DF X' J (env' x) vx (g x))
    (hl : xs.length < sizeLine) (nd : ((xs.filter p).map kw).Nodup) (q : Φ (env.set i (.own (.dl (wd ((xs.filter p).map fun x => (kw x, g x))))))) (hy : X.N[i]? = some y := by rfl) (hyl : X.env.scope.names.lookup y = some .local := by rfl) (hsw : swapsWith (.DictComp kx vx [⟨tg, iter, ifs, 0⟩] scope pos) (some (.Name y py)) spos.line X.env = pure true := by rfl)
    (hc : X.calm = true := by rfl) (hs : ∀ x, foldedSetIterable iter X.env x = pure x := by intro _; rfl) : DS X J env (.Assign [.Name y py] (.DictComp kx vx [⟨tg, iter, ifs, 0⟩] scope pos) spos) Φ Ψ := fun G0 H0 σ H G Dn s q1 r1 => by
  refine wpS_of (ps_setDc (wi := wpI X tg iter) (gt := t.g X.K) (tt := ttB X ifs scope) (tk := teB X kx scope) (tv := teB X vx scope) hc hN hy hyl hsw pi_wp ok hg (fun s' H' C cl fp => ⟨fun pins st σ H Q I h => h s' H' C cl fp pins st I⟩) (fun s' H' C cl fp => ⟨fun pins st σ H Q I h => h s' H' C cl fp pins st I⟩) (fun s' H' C cl fp => ⟨fun pins st σ H Q I h => h s' H' C cl fp pins st I⟩) hs) ?_
  refine dcl_read hi hsl he' ht hk hel hl nd s fun p' as G1 H1 u ow fr => ?_
  exact q1 _ _ H1 G1 q (store_many s u (.cons (v := .ref p') (x := .own (.dl _)) ⟨p', rfl, ow⟩ (fun _ h => by cases h) .nil) (fun bs hb a ha => by rw [List.mem_singleton.mp hb] at ha; exact fr a ha) [i])
/-- xs[n], n from 0 on -/
def rGetN (K : PySem.W.Frag) : V → V → Hp → VK → Prop := fun o i H Q => ∃ p xs n v, o = .ref p ∧ i = .int ((n : Nat) : Int) ∧ SqL K H p xs ∧ xs[n]? = some v ∧ Q v H
theorem get_list : PGet X (rGetN X.K) := by
  intro pins s σ H o i ov iv Q I r1 r2 h
  obtain ⟨p, xs, n, v, rfl, rfl, hL, hv, q⟩ := h
  cases r1
  obtain ⟨tk, rfl⟩ := r2
  obtain ⟨its, rv, pl, hz⟩ := I.list hL
  obtain ⟨u, hu, ru⟩ := rv.get hv
  have hn : n < xs.length := (List.getElem?_eq_some_iff.mp hv).1
  have h63 := line63
  exact PySem.wpAny_getItem_list pl.isList (by omega) (by omega) (by simpa using hu) ⟨v, H, I, ru, q⟩
theorem putW_keys {α : Type} {kvs : List (W × α)} {w : W} {x : α} (h : w ∈ kvs.map (·.1)) : (putW kvs w x).map (·.1) = kvs.map (·.1) := by
  unfold putW
  obtain ⟨p, hp, e⟩ := List.mem_map.mp h
  rw [if_pos (List.any_eq_true.mpr ⟨p, hp, decide_eq_true e⟩), List.map_map]
  apply List.map_congr_left
  intro a _
  show (if a.1 = w then (a.1, x) else a).1 = a.1
  split <;> rfl
/-- found[key][n] op= e: found a dict of lists of its own -/
theorem ds_augDl {i : Nat} {nm : Str} {npos spos tpos : Pos} {op : Operator} {f : Int → Int → Int} {kvs : List (W × List D)} {w : W} {xs : List D} {n : Nat} {m c : Int} (hr : Room k X.A) (ho : env[i]? = some (.own (.dl (wd kvs)))) (hk : DE X J env kx (enc w)) (hn : DE X J env a (.int (n : Int))) (he : DE X J env e (.int c)) (hip : PIp X op (ipI f))
    (nk : (kvs.map (·.1)).Nodup) (hl : lookW kvs w = some xs) (hx : xs[n]? = some (.int m)) (q : Φ (env.set i (.own (.dl (wd (putW kvs w (xs.set n (.int (f m c)))))))))
    (hN : X.N[i]? = some nm := by rfl) (hv : Vis X.env.scope nm := by first | exact Or.inl rfl | exact Or.inr (Or.inl rfl) | exact Or.inr (Or.inr rfl)) (hd : (nm == ("__debug__" : Str)) = false := by decide) (hcd : (nm == ("__classdict__" : Str)) = false := by decide) (hs : NoSl kx := by exact fun _ _ => rfl)
    (ha : ∀ ov iv new, augStore a ov iv new = (do holding [new, ov, iv] (setItem ov iv new); release [new, ov, iv] []; pure .next) := by intros; rfl) : DS X J env (.AugAssign (.Subscript (.Subscript (.Name nm npos) kx spos) a tpos) op e pos) Φ Ψ := fun G0 H0 σ H G Dn s q1 r1 => by
  refine wpS_of (ps_augS (pe_dget (hu_of hr) (pe_var hN hv hd hcd) pe_wp hs) pe_wp get_list pe_wp hip set_list ha) ?_
  obtain ⟨ad, sa⟩ := s.toA
  obtain ⟨p, ep, ⟨vs, qs, ea, ndq, hp, dl⟩, fr⟩ := sa.sl i _ ho
  refine ⟨.ref p, ep, hk G0 H0 σ H G _ s fun v1 d1 G1 H1 u1 rr1 p1 => ?_⟩
  subst p1
  have sa1 := sa.ext u1
  obtain ⟨p', ep', ⟨vs1, qs1, ea1, ndq1, hp1, dl1⟩, fr1⟩ := sa1.sl i _ ho
  rw [ep] at ep'; cases ep'
  rw [ea1] at ndq1
  obtain ⟨qa, ws, k1, k2, k3, k4, _⟩ := dl_at dl1 (List.nodup_cons.mp ndq1).2 nk hl
  refine ⟨p, .ref qa, rfl, .inl ⟨vs1, kW w, .inl hp1, rr1.str_inv, k1.symm⟩, ?_⟩
  refine hn G0 H0 σ H1 G1 _ sa1.toG fun v2 d2 G2 H2 u2 rr2 p2 => ?_
  subst p2
  have sa2 := sa1.ext u2
  obtain ⟨p', ep', ⟨vs2, qs2, ea2, ndq2, hp2, dl2⟩, fr2⟩ := sa2.sl i _ ho
  rw [ep] at ep'; cases ep'
  have nm2 : ∀ b ∈ ad i, ¬ J.M b := fun b hb mm => (sa.al0 b mm).1 (fr b hb).1
  have hq : qa ∈ ad i := by rw [ea1]; exact List.mem_cons_of_mem _ k2
  have hq2 : H2 qa = some (.lst ws) := u2.h qa _ (nm2 qa hq) k3
  have aw := k4.mono u2.g
  obtain ⟨vm, hvm, rm⟩ := aw.get hx
  refine ⟨qa, ws, n, vm, rfl, rr2.int_inv, .inl (.inl hq2), hvm, ?_⟩
  refine he G0 H0 σ H2 G2 _ sa2.toG fun v3 d3 G3 H3 u3 rr3 p3 => ?_
  subst p3
  have sa3 := sa2.ext u3
  obtain ⟨p', ep', ⟨vs3, qs3, ea3, ndq3, hp3, dl3⟩, fr3⟩ := sa3.sl i _ ho
  rw [ep] at ep'; cases ep'
  rw [ea3] at ndq3
  obtain ⟨qa3, ws3, j1, j2, j3, j4, j5⟩ := dl_at dl3 (List.nodup_cons.mp ndq3).2 nk hl
  -- the same list
  have hq3 : H3 qa = some (.lst ws) := u3.h qa _ (nm2 qa hq) hq2
  have hvs : vs3 = vs1 := by
    have z1 := u3.h p _ (nm2 p (by rw [ea]; exact List.mem_cons_self)) (u2.h p _ (nm2 p (by rw [ea]; exact List.mem_cons_self)) hp1)
    rw [hp3] at z1
    exact HO.dK.inj (Option.some.inj z1)
  have hqa : qa3 = qa := by
    rw [hvs, k1] at j1
    exact (V.ref.inj (Option.some.inj j1)).symm
  subst hqa
  rw [hq3] at j3
  cases j3
  refine ⟨m, c, rm.int_inv, rr3.int_inv, qa3, ws, (n : Int), n, rfl, rr2.int_inv, hq3, ?_, ?_⟩
  · have hlt : n < ws.length := (List.getElem?_eq_some_iff.mp hvm).1
    unfold ixN
    rw [if_pos (by omega), if_pos (by omega)]
    simp
  · have aw3 : IsAll X.K G3 (ws.set n (.int (f m c))) (xs.set n (.int (f m c))) := (aw.mono u3.g).set (.int _) n
    refine q1 _ σ _ G3 q ?_
    have h0 := fr3 qa3 (by rw [ea3]; exact List.mem_cons_of_mem _ j2)
    refine ⟨⟨sa3.up.g, fun b x y => ?_, fun b x mm y => ?_, fun b y => ?_, sa3.up.hid, J.st _ _ sa3.up.inv fun b mm => ?_⟩, sa3.al0, by rw [List.length_set]; exact sa3.len, ad, fun j sl y => ?_, sa3.dj, fun j hj => sa3.out j (by rw [List.length_set] at hj; exact hj)⟩
    · rw [upd_ne (ne_of_none y h0.2)]; exact sa3.up.gh b x y
    · rw [upd_ne (ne_of_none y h0.1)]; exact sa3.up.h b x mm y
    · by_cases z : b = qa3
      · rw [z, upd_same]; simp
      · rw [upd_ne z]; exact sa3.up.fr b y
    · exact upd_ne fun z => (sa3.al0 b mm).1 (by rw [z]; exact h0.1)
    · by_cases z : j = i
      · subst z
        have hi : j < env.length := (List.getElem?_eq_some_iff.mp ho).1
        rw [List.getElem?_set_self hi] at y
        cases y
        have npq : p ≠ qa3 := fun z => (List.nodup_cons.mp ndq3).1 (by rw [z]; exact j2)
        exact ⟨p, ep, ⟨vs3, qs3, ea3, by rw [ea3]; exact ndq3, by rw [upd_ne npq]; exact hp3, j5 _ _ aw3⟩, fr3⟩
      · rw [List.getElem?_set_ne (Ne.symm z)] at y
        have yy := sa3.sl j sl y
        cases sl with
        | no => exact yy
        | d x => exact yy
        | own w2 =>
          obtain ⟨p2, e3, r3, f3⟩ := yy
          exact ⟨p2, e3, r3.ext (Same.refl G3) fun b hb o ho2 => by rw [upd_ne fun y2 => sa3.dj j i b z hb (by rw [y2, ea3]; exact List.mem_cons_of_mem _ j2)]; exact ho2, f3⟩
end
end Sh
/-! Sh11: displays of dicts; comprehensions stored on their line. -/
namespace Sh
open PySem PySem.Spec PyProof.Rows L2
open En (enc)
section
variable {X : Cx} {J : Jn} {env : List SL} {a b e kx vx : Expr} {pos : Pos} {keys : List (Option Expr)} {values : List Expr}
structure DPs (X : Cx) (J : Jn) (env : List SL) (pos : Pos) (keys : List (Option Expr)) (values : List Expr) (kvs : List (W × D)) : Prop where
  ex : ∃ trs, PPs X pos keys values trs ∧ ∀ (G0 H0 : Hp) (σ : L2.St) (H G : Hp) (Q : List (V × V) → Hp → Prop), StG X.K J G0 H0 env σ H G →
    (∀ (vs : List (Key × V)) G1 H1, Up J G H G1 H1 → IsKV X.K G1 vs (wd kvs) → Q (vs.map fun kv => (kV kv.1, kv.2)) H1) → tPairs trs σ H Q
theorem dps_nil : DPs X J env pos [] [] [] := ⟨[], pps_nil, fun _ _ σ H G Q s q => q [] G H (Up.refl s.bs) .nil⟩
theorem dps_cons {w : W} {d : D} {kvs : List (W × D)} (hk : DE X J env kx (enc w)) (hv : DE X J env vx d) (hr : DPs X J env pos keys values kvs) : DPs X J env pos (some kx :: keys) (vx :: values) ((w, d) :: kvs) := by
  obtain ⟨trs, h, k⟩ := hr.ex
  refine ⟨(wpE X kx, wpE X vx) :: trs, pps_cons pe_wp pe_wp h, fun G0 H0 σ H G Q s q => ?_⟩
  refine hk G0 H0 σ H G _ s fun v1 d1 G1 H1 u1 r1 p1 => ?_
  subst p1
  refine hv G0 H0 σ H1 G1 _ (s.ext u1) fun v2 d2 G2 H2 u2 r2 p2 => ?_
  subst p2
  refine k G0 H0 σ H2 G2 _ ((s.ext u1).ext u2) fun vs G3 H3 u3 al => ?_
  rw [r1.str_inv]
  exact q ((kW w, v2) :: vs) G3 H3 ((u1.trans u2).trans u3) (.cons (r2.mono u3.g) al)
theorem mergeK_nil {K : PySem.W.Frag} {G : Hp} : ∀ {kvs acc : List (W × D)} {vs accv : List (Key × V)}, IsKV K G vs (wd kvs) → IsKV K G accv (wd acc) → IsKV K G (mergeK accv vs) (wd (kvs.foldl (fun acc q => putW acc q.1 q.2) acc))
  | [], _, _, _, .nil, h => h
  | p :: r, acc, _, accv, .cons (v := v) q t, h => by
    have z := mergeK_nil t (isKV_put (w := p.1) q h)
    exact z
theorem de_disp {kvs : List (W × D)} (h : DPs X J env pos keys values kvs) (nd : (kvs.map (·.1)).Nodup) (h16 : kvs.length ≤ 15) (hall : keys.all (·.isSome) = true := by rfl) (hl : keys.length = values.length := by rfl) (h0 : keys ≠ [] := by exact List.cons_ne_nil _ _) (h15 : keys.length ≤ 15 := by exact Nat.le_of_ble_eq_true rfl) : DE X J env (.Dict keys values pos) (.dct (wd kvs)) := fun G0 H0 σ H G Q s q => by
  obtain ⟨trs, h, k⟩ := h.ex
  refine wp_of (pe_disp h hall hl h0 h15) ?_
  intro p hp
  have uN := Up.newH s.bs (o := .dK []) hp
  have gp : G p = none := s.bs.gh.free hp
  refine k G0 H0 σ _ G _ (s.ext uN) fun vs G1 H1 u al => ?_
  have nm : ¬ J.M p := fun m => (s.bs.al p m).1 hp
  have hp1 : H1 p = some (.dK []) := u.h p _ nm upd_same
  have gp1 : G1 p = none := u.hid p gp (by rw [upd_same]; simp)
  refine ⟨hp1, vs, rfl, by rw [isKV_len al, wd_len]; exact h16, ?_⟩
  have e : kvs.foldl (fun acc q => putW acc q.1 q.2) [] = kvs := by
    have z := foldl_putW kvs [] (by rw [List.nil_append]; exact nd)
    rwa [List.nil_append] at z
  have al2 := mergeK_nil al (accv := []) (acc := []) .nil
  rw [e] at al2
  have u2 := (uN.trans u).mut (o := .dK (mergeK [] vs)) s.bs hp gp1
  have u3 := u2.show hp gp1 upd_same
  exact q _ _ _ _ u3 (.dct (.inl upd_same) (al2.mono fun c o y => by rw [upd_ne (ne_of_none y gp1)]; exact y)) rfl
end
end Sh
/-! Sx: the text by places; what is known of the top. -/
namespace Sh
open PySem PySem.Spec PyProof.Rows L2
open En (enc)
def top (i : Nat) : Stmt := PySem.Challenge.pw_surehouse_k14_whole_audits.main.body.getD i (.Pass ⟨0, 0, 0, 0⟩)
abbrev Log := List (W × W)
abbrev Sup := W × W × Int
abbrev Prt := W × Int
abbrev Deal := W × W × List Prt × Int
abbrev Buy := W × Int
abbrev Setup := List Sup × List Deal × List Buy
abbrev Hrd := W × W × W
abbrev Let := W × W × W × W
abbrev State := Log × List Hrd × List Log × Log × List Let
/-- a def of the top, where it stands -/
structure Def (K : PySem.W.Frag) (mg : Str → Option Value) (x : Str) (st : Stmt) (ps : List Str) : Prop where
  ex : ∃ f fd, Fun K x x st f fd ∧ mg x = some (.ref f) ∧ Binds K fd ps []
/-- a def that keeps a promise -/
structure Cal (P : Program) (w : World) (K : PySem.W.Frag) (mg : Str → Option Value) (base : Heap) (x : Str) (k : Nat) (ps : List Str) (sp : Sp) : Prop where
  ex : ∃ f fd, FnOk P w K mg base CX0 k f fd ps sp ∧ mg x = some (.ref f) ∧ PySem.W.keepIn K (.ref f) = true ∧ Binds K fd ps []
theorem cal_of {P : Program} {w : World} {K : PySem.W.Frag} {mg : Str → Option Value} {base : Heap} {x : Str} {k : Nat} {st : Stmt} {ps : List Str} {sp : Sp} (h : Def K mg x st ps) (ok : ∀ f fd, Fun K x x st f fd → FnOk P w K mg base CX0 k f fd ps sp) : Cal P w K mg base x k ps sp := by
  obtain ⟨f, fd, F, hm, hb⟩ := h.ex
  exact ⟨f, fd, ok f fd F, hm, F.kp, hb⟩
section
variable {X : Cx} {J : Jn} {env : List SL} {e : Expr} {es : List Expr} {pos p : Pos} {k : Nat} {ps : List Str} {α : Type} {args : α → List D} {Pre : α → Prop} {Post : α → D → Prop} {x : Str} {PA : List D → Prop} {P2 : D → Prop}
theorem cal_ep (C : Cal X.prog X.w X.K X.mg X.base x k ps (spT X.K J0 args Pre Post)) (hr : Room k X.A) (ha : AP' X J env (e :: es) PA) (hpre : ∀ ds, PA ds → ∃ a, ds = args a ∧ Pre a ∧ ∀ d, Post a d → P2 d)
    (hg : Gl X x := by rfl) (he : starEach (e :: es) X.env = (false, eval e X.env) :: starEach es X.env := by rfl) (hpl : (backTo pos (starEach es X.env)).any (·.1) = false := by rfl) (hdb : (x == ("__debug__" : Str)) = false := by decide) : EP' X J env (.Call (.Name x p) (e :: es) [] pos) P2 := by
  obtain ⟨f, fd, F, hm, hk, hb⟩ := C.ex
  exact ep_call0 F hm hk hb hr ha hpre hg hdb he hpl
theorem cal_de {val : α → D} (C : Cal X.prog X.w X.K X.mg X.base x k ps (spT X.K J0 args Pre (fun a d => d = val a))) (hr : Room k X.A) (a : α) (ha : DA X J env (e :: es) (args a)) (hpre : Pre a)
    (hg : Gl X x := by rfl) (he : starEach (e :: es) X.env = (false, eval e X.env) :: starEach es X.env := by rfl) (hpl : (backTo pos (starEach es X.env)).any (·.1) = false := by rfl) (hdb : (x == ("__debug__" : Str)) = false := by decide) : DE X J env (.Call (.Name x p) (e :: es) [] pos) (val a) :=
  cal_ep C hr ha (fun ds e => ⟨a, e, hpre, fun d h => h⟩) hg he hpl hdb
/-- .. with any of some values -/
theorem cal_ee (C : Cal X.prog X.w X.K X.mg X.base x k ps (spT X.K J0 args Pre Post)) (hr : Room k X.A) (a : α) (ha : DA X J env (e :: es) (args a)) (hpre : Pre a)
    (hg : Gl X x := by rfl) (he : starEach (e :: es) X.env = (false, eval e X.env) :: starEach es X.env := by rfl) (hpl : (backTo pos (starEach es X.env)).any (·.1) = false := by rfl) (hdb : (x == ("__debug__" : Str)) = false := by decide) : EP' X J env (.Call (.Name x p) (e :: es) [] pos) (Post a) :=
  cal_ep C hr ha (fun ds e => ⟨a, e, hpre, fun d h => h⟩) hg he hpl hdb
end
def rows0 : List (List W) := [[.begun], [.begun, .go], [.begun, .drop], [.begun, .go, .ended], [.begun, .drop, .ended], [.begun, .go, .ended, .ret], [.begun, .go, .ended, .ret, .returned]]
def hrows : List (List W) := [[], [.reserved], [.released], [.reserved, .released], [.reserved, .sent], [.reserved, .sent, .back]]
def brows : List (List W) := [[], [.held], [.freed], [.held, .freed], [.held, .taken], [.held, .taken, .refunded]]
def bads : List W := [.full, .poor, .released, .freed]
/-- what the top holds: built-ins free, constants, defs -/
structure Txt (K : PySem.W.Frag) (mg : Str → Option Value) : Prop where
  f_len : mg "len" = none
  f_all : mg "all" = none
  f_any : mg "any" = none
  f_tuple : mg "tuple" = none
  f_list : mg "list" = none
  f_dict : mg "dict" = none
  f_set : mg "set" = none
  f_sorted : mg "sorted" = none
  f_min : mg "min" = none
  f_sum : mg "sum" = none
  f_int : mg "int" = none
  f_str : mg "str" = none
  f_isinstance : mg "isinstance" = none
  f_range : mg "range" = none
  f_zip : mg "zip" = none
  f_bool : mg "bool" = none
  f_ValueError : mg "ValueError" = none
  c_RESERVED : ∃ t, mg "RESERVED" = some (.str (W.s .reserved) t)
  c_SENT : ∃ t, mg "SENT" = some (.str (W.s .sent) t)
  c_RELEASED : ∃ t, mg "RELEASED" = some (.str (W.s .released) t)
  c_BACK : ∃ t, mg "BACK" = some (.str (W.s .back) t)
  c_HELD : ∃ t, mg "HELD" = some (.str (W.s .held) t)
  c_TAKEN : ∃ t, mg "TAKEN" = some (.str (W.s .taken) t)
  c_FREED : ∃ t, mg "FREED" = some (.str (W.s .freed) t)
  c_REFUNDED : ∃ t, mg "REFUNDED" = some (.str (W.s .refunded) t)
  c_BANK : ∃ t, mg "BANK" = some (.str (W.s .bank) t)
  c_BEGUN : ∃ t, mg "BEGUN" = some (.str (W.s .begun) t)
  c_GO : ∃ t, mg "GO" = some (.str (W.s .go) t)
  c_DROP : ∃ t, mg "DROP" = some (.str (W.s .drop) t)
  c_ENDED : ∃ t, mg "ENDED" = some (.str (W.s .ended) t)
  c_RETURN : ∃ t, mg "RETURN" = some (.str (W.s .ret) t)
  c_RETURNED : ∃ t, mg "RETURNED" = some (.str (W.s .returned) t)
  c_SHOP : ∃ t, mg "SHOP" = some (.str (W.s .shop) t)
  c_SMALL : ∃ t, mg "SMALL" = some (.str "abcdefghijklmnopqrstuvwxyz" t)
  c_FIGURES : ∃ t, mg "FIGURES" = some (.str "0123456789" t)
  t_ROWS : ∃ p, mg "ROWS" = some (.ref p) ∧ ∀ G, Is K G (.ref p) (enc rows0)
  t_HOUSE_ROWS : ∃ p, mg "HOUSE_ROWS" = some (.ref p) ∧ ∀ G, Is K G (.ref p) (enc hrows)
  t_BANK_ROWS : ∃ p, mg "BANK_ROWS" = some (.ref p) ∧ ∀ G, Is K G (.ref p) (enc brows)
  t_BADS : ∃ p, mg "BADS" = some (.ref p) ∧ ∀ G, Is K G (.ref p) (enc bads)
  d_parts_at : Def K mg "parts_at" (top 6) ["setup", "deal", "house"]
  d_deal_of : Def K mg "deal_of" (top 7) ["setup", "name"]
  d_stand_of : Def K mg "stand_of" (top 8) ["log", "deal"]
  d_counts_of : Def K mg "counts_of" (top 9) ["setup", "log", "house"]
  d_has_room : Def K mg "has_room" (top 10) ["setup", "log", "house", "deal"]
  d_house_step : Def K mg "house_step" (top 11) ["setup", "log", "house", "word", "deal"]
  d_coins_of : Def K mg "coins_of" (top 17) ["setup", "log"]
  d_has_coins : Def K mg "has_coins" (top 18) ["setup", "log", "deal"]
  d_bank_step : Def K mg "bank_step" (top 19) ["setup", "log", "word", "deal"]
  d_houses_of : Def K mg "houses_of" (top 35) ["setup", "deal"]
  d_partners : Def K mg "partners" (top 36) ["setup", "deal"]
  d_stage_of : Def K mg "stage_of" (top 37) ["log", "deal"]
  d_went : Def K mg "went" (top 38) ["log", "deal"]
  d_asks_of : Def K mg "asks_of" (top 39) ["setup", "log", "heard", "deal"]
  d_all_good : Def K mg "all_good" (top 40) ["setup", "log", "heard", "deal"]
  d_next_log : Def K mg "next_log" (top 41) ["setup", "log", "heard", "deal"]
  d_shop_step : Def K mg "shop_step" (top 42) ["setup", "log", "heard", "who", "word", "deal"]
  d_is_whole : Def K mg "is_whole" (top 46) ["thing", "least", "most"]
  d_is_name : Def K mg "is_name" (top 47) ["thing"]
  d_are_unlike : Def K mg "are_unlike" (top 48) ["things"]
  d_are_rows : Def K mg "are_rows" (top 49) ["thing", "most", "width"]
  d_is_deal : Def K mg "is_deal" (top 52) ["setup", "thing"]
  d_are_supplies : Def K mg "are_supplies" (top 53) ["thing"]
  d_are_buyers : Def K mg "are_buyers" (top 54) ["thing"]
  d_need_setup : Def K mg "need_setup" (top 55) ["supplies", "deals", "buyers"]
  d_houses_in : Def K mg "houses_in" (top 56) ["setup"]
  d_first_state : Def K mg "first_state" (top 57) ["setup"]
  d_with_letters : Def K mg "with_letters" (top 58) ["letters", "more"]
  d_began : Def K mg "began" (top 59) ["setup", "state", "word", "deal"]
  d_ticked : Def K mg "ticked" (top 60) ["setup", "state"]
  d_delivered : Def K mg "delivered" (top 61) ["setup", "state", "letter", "is_kept"]
  d_step : Def K mg "step" (top 62) ["setup", "state", "event"]
  d_is_event : Def K mg "is_event" (top 63) ["setup", "thing"]
  d_events_of : Def K mg "events_of" (top 64) ["setup", "state"]
  d_things_in : Def K mg "things_in" (top 66) ["setup", "state"]
  d_coins_in : Def K mg "coins_in" (top 67) ["setup", "state"]
  d_row_of : Def K mg "row_of" (top 72) ["log", "deal"]
  d_deal_faults : Def K mg "deal_faults" (top 73) ["setup", "state", "deal"]
  d_end_faults : Def K mg "end_faults" (top 74) ["shop", "rows", "bank", "deal"]
  d_faults_in : Def K mg "faults_in" (top 75) ["setup", "state"]
  d_is_log : Def K mg "is_log" (top 76) ["thing", "words", "names"]
  d_is_state : Def K mg "is_state" (top 77) ["setup", "thing"]
  d_faults : Def K mg "faults" (top 78) ["supplies", "deals", "buyers", "state"]
  d_audit : Def K mg "audit" (top 79) ["world"]
  d_law_taken : Def K mg "_law_taken" (top 81) ["_law_row", "_law_many"]
  d_law_pick : Def K mg "_law_pick" (top 82) ["_law_row", "_law_things"]
  d_law_alike : Def K mg "_law_alike" (top 83) ["_law_found", "_law_due"]
  d_law_deals : Def K mg "_law_deals" (top 84) ["_law_row", "_law_many"]
  d_law_words : Def K mg "_law_words" (top 85) ["_law_log", "_law_deal"]
  d_law_fine : Def K mg "_law_fine" (top 86) ["_law_setup", "_law_state"]
end Sh
/-! A1: stand_of, stage_of, deal_of, row_of, went, houses_in, _law_words. -/
namespace Sh
open PySem PySem.Spec PyProof.Rows L2
open En (enc)
/-! ### the mirror -/
def standOf (log : Log) (d : W) : W := log.foldl (fun f p => if p.2 = d then p.1 else f) .em
def rowOf (log : Log) (d : W) : List W := (log.filter fun p => decide (p.2 = d)).map (·.1)
def dealOf (S : Setup) (n : W) : Deal := ((S.2.1.filter fun d => decide (d.1 = n))[0]?).getD (.em, .em, [], 0)
def hin (xs : List Sup) (acc : List W) : List W := xs.foldl (fun f s => if s.2.1 ∈ f then f else f ++ [s.2.1]) acc
def housesIn (S : Setup) : List W := hin S.1 []
theorem hin_len (xs : List Sup) (acc : List W) : (hin xs acc).length ≤ acc.length + xs.length := by
  induction xs generalizing acc with
  | nil => exact Nat.le_refl _
  | cons x xs ih =>
    show (hin xs (if x.2.1 ∈ acc then acc else acc ++ [x.2.1])).length ≤ _
    refine Nat.le_trans (ih _) ?_
    split
    · rw [List.length_cons]; omega
    · rw [List.length_append, List.length_cons, List.length_cons, List.length_nil]; omega
theorem small {n m : Nat} (h : n ≤ m) (hm : m ≤ 1000000 := by decide) : n < sizeLine := Nat.lt_of_le_of_lt (Nat.le_trans h hm) (by decide)
section
variable {P : Program} {w : World} {K : PySem.W.Frag} {mg : Str → Option Value} {base : Heap}
theorem sc_stand_of : FnScope ["log", "deal", "found", "word", "name"] ["log", "deal"] (defScope (top 8)) := ⟨rfl, rfl, rfl, by decide +kernel, rfl, by decide +kernel, by decide +kernel⟩
theorem cal_stand_of (T : Txt K mg) : Cal P w K mg base "stand_of" 1 ["log", "deal"] (spT K J0 (fun a : Log × W => [enc a.1, enc a.2]) (fun a => True) (fun a d => d = enc (standOf a.1 a.2))) := by
  refine cal_of T.d_stand_of fun f fd F => fn_ok F sc_stand_of (fun _ => rfl) fun cdv A outer s H E a hr pre => ?_
  refine db_cons (ds_setD (i := 2) (de_W .em) sc_stand_of.nd ?_)
  refine db_cons (ds_for (xs := a.1) (f := enc) (t := .tp [3, 4]) (di_tup (de_var (i := 0) rfl)) (fun i env => ∃ x y, env = [.d (enc a.1), .d (enc a.2), .d (enc (standOf (a.1.take i) a.2)), x, y]) ⟨_, _, rfl⟩ ?_ ?_ ?_ PassesOwn.never)
  · rintro i p _ hp ⟨x, y, rfl⟩
    refine ⟨_, .tp _ _ _ rfl, ?_⟩
    have e : standOf (a.1.take (i + 1)) a.2 = if p.2 = a.2 then p.1 else standOf (a.1.take i) a.2 := by
      unfold standOf; rw [take_succ_of hp, List.foldl_append]; rfl
    refine db_cons (ds_if (dt_eq hr (x := p.2) (y := a.2) (de_var (i := 4) rfl) (de_var (i := 1) rfl)) (fun h => ?_) (fun h => ?_))
    · refine db_cons (ds_setD (i := 2) (de_var (i := 3) rfl) sc_stand_of.nd ?_)
      rw [decide_eq_true_eq] at h
      rw [e, if_pos h]
      exact db_nil (db_nil ⟨_, _, rfl⟩)
    · rw [decide_eq_false_iff_not] at h
      rw [e, if_neg h]
      exact db_nil (db_nil ⟨_, _, rfl⟩)
  · rintro _ ⟨x, y, rfl⟩
    rw [List.take_length]
    exact db_cons (ds_retD (de_var (i := 2) rfl) rfl)
  · exact (pg_tup rfl (pgs_cons (pg_name (i := 3) sc_stand_of.nd rfl (Or.inl rfl)) (pgs_cons (pg_name (i := 4) sc_stand_of.nd rfl (Or.inl rfl)) pgs_nil)))
theorem sc_stage_of : FnScope ["log", "deal", "found", "word", "name"] ["log", "deal"] (defScope (top 37)) := ⟨rfl, rfl, rfl, by decide +kernel, rfl, by decide +kernel, by decide +kernel⟩
theorem cal_stage_of (T : Txt K mg) : Cal P w K mg base "stage_of" 1 ["log", "deal"] (spT K J0 (fun a : Log × W => [enc a.1, enc a.2]) (fun a => True) (fun a d => d = enc (standOf a.1 a.2))) := by
  refine cal_of T.d_stage_of fun f fd F => fn_ok F sc_stage_of (fun _ => rfl) fun cdv A outer s H E a hr pre => ?_
  refine db_cons (ds_setD (i := 2) (de_W .em) sc_stage_of.nd ?_)
  refine db_cons (ds_for (xs := a.1) (f := enc) (t := .tp [3, 4]) (di_tup (de_var (i := 0) rfl)) (fun i env => ∃ x y, env = [.d (enc a.1), .d (enc a.2), .d (enc (standOf (a.1.take i) a.2)), x, y]) ⟨_, _, rfl⟩ ?_ ?_ ?_ PassesOwn.never)
  · rintro i p _ hp ⟨x, y, rfl⟩
    refine ⟨_, .tp _ _ _ rfl, ?_⟩
    have e : standOf (a.1.take (i + 1)) a.2 = if p.2 = a.2 then p.1 else standOf (a.1.take i) a.2 := by
      unfold standOf; rw [take_succ_of hp, List.foldl_append]; rfl
    refine db_cons (ds_if (dt_eq hr (x := p.2) (y := a.2) (de_var (i := 4) rfl) (de_var (i := 1) rfl)) (fun h => ?_) (fun h => ?_))
    · refine db_cons (ds_setD (i := 2) (de_var (i := 3) rfl) sc_stage_of.nd ?_)
      rw [decide_eq_true_eq] at h
      rw [e, if_pos h]
      exact db_nil (db_nil ⟨_, _, rfl⟩)
    · rw [decide_eq_false_iff_not] at h
      rw [e, if_neg h]
      exact db_nil (db_nil ⟨_, _, rfl⟩)
  · rintro _ ⟨x, y, rfl⟩
    rw [List.take_length]
    exact db_cons (ds_retD (de_var (i := 2) rfl) rfl)
  · exact (pg_tup rfl (pgs_cons (pg_name (i := 3) sc_stage_of.nd rfl (Or.inl rfl)) (pgs_cons (pg_name (i := 4) sc_stage_of.nd rfl (Or.inl rfl)) pgs_nil)))
theorem sc_deal_of : FnScope ["setup", "name", "deal"] ["setup", "name"] (defScope (top 7)) := ⟨rfl, rfl, rfl, by decide +kernel, rfl, by decide +kernel, by decide +kernel⟩
theorem deal_there {S : Setup} {n : W} (h : n ∈ S.2.1.map (·.1)) : (S.2.1.filter fun d => decide (d.1 = n))[0]? = some (dealOf S n) := by
  obtain ⟨d, hd, e⟩ := List.mem_map.mp h
  have m : d ∈ S.2.1.filter fun d => decide (d.1 = n) := List.mem_filter.mpr ⟨hd, by simpa using e⟩
  unfold dealOf
  cases q : (S.2.1.filter fun d => decide (d.1 = n)) with
  | nil => rw [q] at m; cases m
  | cons x xs => rfl
theorem cal_deal_of (T : Txt K mg) : Cal P w K mg base "deal_of" 1 ["setup", "name"] (spT K J0 (fun a : Setup × W => [enc a.1, enc a.2]) (fun a => a.2 ∈ a.1.2.1.map (·.1) ∧ a.1.2.1.length ≤ 1000) (fun a d => d = enc (dealOf a.1 a.2))) := by
  refine cal_of T.d_deal_of fun f fd F => fn_ok F sc_deal_of (fun _ => rfl) fun cdv A outer s H E a hr pre => ?_
  refine db_cons (ds_retD (de_ixnL 0 (de_fe (df_lc (xs := a.1.2.1) (f := enc) (p := fun d => decide (d.1 = a.2)) (g := enc) (t := .nm 2) (own := [("deal", 2)]) (di_tup (de_ixn 1 (de_var (i := 0) rfl) rfl)) rfl sc_deal_of.nd (blkOk_by (N := ["setup", "name", "deal"]) (sc := defScope (top 7)) (by decide +kernel)) (by decide) (fun _ _ _ _ _ => (pg_name (i := 2) sc_deal_of.nd rfl (Or.inl rfl))) (fun _ => .nm _ _ _)
    (fun _ _ _ _ _ x hx => dts_one (dt_eq hr (x := x.1) (y := a.2) (de_ixn 0 (de_var (i := 2) rfl) rfl) (de_var (i := 1) rfl))) (fun _ _ _ _ _ x hx hp => (de_var (i := 2) rfl)) (small pre.2))) ?_) rfl)
  rw [List.getElem?_map, deal_there pre.1]
  rfl
theorem sc_row_of : FnScope ["log", "deal", "word", "name"] ["log", "deal"] (defScope (top 72)) := ⟨rfl, rfl, rfl, by decide +kernel, rfl, by decide +kernel, by decide +kernel⟩
theorem cal_row_of (T : Txt K mg) : Cal P w K mg base "row_of" 1 ["log", "deal"] (spT K J0 (fun a : Log × W => [enc a.1, enc a.2]) (fun a => a.1.length ≤ 1000) (fun a d => d = enc (rowOf a.1 a.2))) := by
  refine cal_of T.d_row_of fun f fd F => fn_ok F sc_row_of (fun _ => rfl) fun cdv A outer s H E a hr pre => ?_
  refine db_cons (ds_retD (de_tuple T.f_tuple (de_fe (df_lc (xs := a.1) (f := enc) (p := fun p => decide (p.2 = a.2)) (g := fun p => enc p.1) (t := .tp [2, 3]) (own := [("word", 2), ("name", 3)]) (di_tup (de_var (i := 0) rfl)) rfl sc_row_of.nd (blkOk_by (N := ["log", "deal", "word", "name"]) (sc := defScope (top 72)) (by decide +kernel)) (by decide)
    (fun _ _ _ _ _ => (pg_tup rfl (pgs_cons (pg_name (i := 2) sc_row_of.nd rfl (Or.inl rfl)) (pgs_cons (pg_name (i := 3) sc_row_of.nd rfl (Or.inl rfl)) pgs_nil)))) (fun _ => .tp _ _ _ rfl) (fun _ _ _ _ _ x hx => dts_one (dt_eq hr (x := x.2) (y := a.2) (de_var (i := 3) rfl) (de_var (i := 1) rfl))) (fun _ _ _ _ _ x hx hp => (de_var (i := 2) rfl)) (small pre)))) ?_)
  show D.tup _ = D.tup _
  unfold rowOf
  rw [List.map_map]
  rfl
theorem sc__law_words : FnScope ["_law_log", "_law_deal", "_law_word", "_law_name"] ["_law_log", "_law_deal"] (defScope (top 85)) := ⟨rfl, rfl, rfl, by decide +kernel, rfl, by decide +kernel, by decide +kernel⟩
theorem cal_law_words (T : Txt K mg) : Cal P w K mg base "_law_words" 1 ["_law_log", "_law_deal"] (spT K J0 (fun a : Log × W => [enc a.1, enc a.2]) (fun a => a.1.length ≤ 1000) (fun a d => d = encL (rowOf a.1 a.2))) := by
  refine cal_of T.d_law_words fun f fd F => fn_ok F sc__law_words (fun _ => rfl) fun cdv A outer s H E a hr pre => ?_
  refine db_cons (ds_retD (de_fe (df_lc (xs := a.1) (f := enc) (p := fun p => decide (p.2 = a.2)) (g := fun p => enc p.1) (t := .tp [2, 3]) (own := [("_law_word", 2), ("_law_name", 3)]) (di_tup (de_var (i := 0) rfl)) rfl sc__law_words.nd (blkOk_by (N := ["_law_log", "_law_deal", "_law_word", "_law_name"]) (sc := defScope (top 85)) (by decide +kernel)) (by decide)
    (fun _ _ _ _ _ => (pg_tup rfl (pgs_cons (pg_name (i := 2) sc__law_words.nd rfl (Or.inl rfl)) (pgs_cons (pg_name (i := 3) sc__law_words.nd rfl (Or.inl rfl)) pgs_nil)))) (fun _ => .tp _ _ _ rfl) (fun _ _ _ _ _ x hx => dts_one (dt_eq hr (x := x.2) (y := a.2) (de_var (i := 3) rfl) (de_var (i := 1) rfl))) (fun _ _ _ _ _ x hx hp => (de_var (i := 2) rfl)) (small pre))) ?_)
  show D.lst _ = D.lst _
  unfold rowOf
  rw [List.map_map]
  rfl
theorem sc_went : FnScope ["log", "deal"] ["log", "deal"] (defScope (top 38)) := ⟨rfl, rfl, rfl, by decide +kernel, rfl, by decide +kernel, by decide +kernel⟩
theorem cal_went (T : Txt K mg) : Cal P w K mg base "went" 1 ["log", "deal"] (spT K J0 (fun a : Log × W => [enc a.1, enc a.2]) (fun a => True) (fun a d => d = .bl (decide ((W.go, a.2) ∈ a.1)))) := by
  refine cal_of T.d_went fun f fd F => fn_ok F sc_went (fun _ => rfl) fun cdv A outer s H E a hr pre => ?_
  exact db_cons (ds_retD (de_in (x := (W.go, a.2)) (ys := a.1) hr (de_tup (da_cons (de_gW T.c_GO) (da_cons (de_var (i := 1) rfl) da_nil))) (de_var (i := 0) rfl) (.tup _)) rfl)
theorem sc_houses_in : FnScope ["setup", "found", "supply"] ["setup"] (defScope (top 56)) := ⟨rfl, rfl, rfl, by decide +kernel, rfl, by decide +kernel, by decide +kernel⟩
theorem cal_houses_in (T : Txt K mg) : Cal P w K mg base "houses_in" 1 ["setup"] (spT K J0 (fun a : Setup => [enc a]) (fun a => a.1.length ≤ 1000) (fun a d => d = encL (housesIn a))) := by
  refine cal_of T.d_houses_in fun f fd F => fn_ok F sc_houses_in (fun _ => rfl) fun cdv A outer s H E a hr pre => ?_
  refine db_cons (ds_setOD (i := 1) df_nil sc_houses_in.nd ?_)
  refine db_cons (ds_for (xs := a.1) (f := enc) (t := .nm 2) (di_tup (de_ixn 0 (de_var (i := 0) rfl) rfl)) (fun i env => ∃ x, env = [.d (enc a), .own (.lst ((hin (a.1.take i) []).map enc)), x]) ⟨_, rfl⟩ ?_ ?_ ?_ PassesOwn.never)
  · rintro i p _ hp ⟨x, rfl⟩
    refine ⟨_, .nm _ _ _, ?_⟩
    have e : hin (a.1.take (i + 1)) [] = if p.2.1 ∈ hin (a.1.take i) [] then hin (a.1.take i) [] else hin (a.1.take i) [] ++ [p.2.1] := by
      unfold hin; rw [take_succ_of hp, List.foldl_append]; rfl
    have hl := hin_len (a.1.take i) []
    rw [List.length_take, List.length_nil] at hl
    refine db_cons (ds_if (tp_cold (dt_nin hr (x := p.2.1) (ys := hin (a.1.take i) []) (de_ixn 1 (de_var (i := 2) rfl) rfl) (de_var (i := 1) rfl) (.lst _))) (fun h => ?_) (fun h => ?_))
    · refine db_cons (ds_appendD (i := 1) rfl (de_ixn 1 (de_var (i := 2) rfl) rfl) (small (m := 1000) (by rw [List.length_map]; omega)) ?_)
      rw [Bool.not_eq_true', decide_eq_false_iff_not] at h
      rw [e, if_neg h, List.map_append]
      exact db_nil (db_nil ⟨_, rfl⟩)
    · rw [Bool.not_eq_false', decide_eq_true_eq] at h
      rw [e, if_pos h]
      exact db_nil (db_nil ⟨_, rfl⟩)
  · rintro _ ⟨x, rfl⟩
    rw [List.take_length]
    exact db_cons (ds_retD (de_var (i := 1) rfl) rfl)
  · exact (pg_name (i := 2) sc_houses_in.nd rfl (Or.inl rfl))
end
section
variable {X : Cx} {J : Jn} {env : List SL} {a b c e : Expr} {pos p : Pos} {k : Nat}
theorem c_stand_of (T : Txt X.K X.mg) (hr : Room 1 X.A) {x : Log} {y : W} (ha : DE X J env a (enc x)) (hb : DE X J env b (enc y)) (hg : Gl X "stand_of" := by rfl) (he : starEach [a, b] X.env = (false, eval a X.env) :: starEach [b] X.env := by rfl) (he2 : starEach [b] X.env = (false, eval b X.env) :: starEach [] X.env := by rfl) (hpl : (backTo pos (starEach [b] X.env)).any (·.1) = false := by rfl) :
    DE X J env (.Call (.Name "stand_of" p) [a, b] [] pos) (enc (standOf x y)) := cal_de (cal_stand_of T) hr (x, y) (da_cons ha (da_cons hb da_nil he2) he) trivial hg he hpl
theorem c_stage_of (T : Txt X.K X.mg) (hr : Room 1 X.A) {x : Log} {y : W} (ha : DE X J env a (enc x)) (hb : DE X J env b (enc y)) (hg : Gl X "stage_of" := by rfl) (he : starEach [a, b] X.env = (false, eval a X.env) :: starEach [b] X.env := by rfl) (he2 : starEach [b] X.env = (false, eval b X.env) :: starEach [] X.env := by rfl) (hpl : (backTo pos (starEach [b] X.env)).any (·.1) = false := by rfl) :
    DE X J env (.Call (.Name "stage_of" p) [a, b] [] pos) (enc (standOf x y)) := cal_de (cal_stage_of T) hr (x, y) (da_cons ha (da_cons hb da_nil he2) he) trivial hg he hpl
theorem c_deal_of (T : Txt X.K X.mg) (hr : Room 1 X.A) {x : Setup} {y : W} (ha : DE X J env a (enc x)) (hb : DE X J env b (enc y)) (h1 : y ∈ x.2.1.map (·.1)) (h2 : x.2.1.length ≤ 1000) (hg : Gl X "deal_of" := by rfl) (he : starEach [a, b] X.env = (false, eval a X.env) :: starEach [b] X.env := by rfl) (he2 : starEach [b] X.env = (false, eval b X.env) :: starEach [] X.env := by rfl) (hpl : (backTo pos (starEach [b] X.env)).any (·.1) = false := by rfl) :
    DE X J env (.Call (.Name "deal_of" p) [a, b] [] pos) (enc (dealOf x y)) := cal_de (cal_deal_of T) hr (x, y) (da_cons ha (da_cons hb da_nil he2) he) ⟨h1, h2⟩ hg he hpl
theorem c_row_of (T : Txt X.K X.mg) (hr : Room 1 X.A) {x : Log} {y : W} (ha : DE X J env a (enc x)) (hb : DE X J env b (enc y)) (h1 : x.length ≤ 1000) (hg : Gl X "row_of" := by rfl) (he : starEach [a, b] X.env = (false, eval a X.env) :: starEach [b] X.env := by rfl) (he2 : starEach [b] X.env = (false, eval b X.env) :: starEach [] X.env := by rfl) (hpl : (backTo pos (starEach [b] X.env)).any (·.1) = false := by rfl) :
    DE X J env (.Call (.Name "row_of" p) [a, b] [] pos) (enc (rowOf x y)) := cal_de (cal_row_of T) hr (x, y) (da_cons ha (da_cons hb da_nil he2) he) h1 hg he hpl
theorem c_law_words (T : Txt X.K X.mg) (hr : Room 1 X.A) {x : Log} {y : W} (ha : DE X J env a (enc x)) (hb : DE X J env b (enc y)) (h1 : x.length ≤ 1000) (hg : Gl X "_law_words" := by rfl) (he : starEach [a, b] X.env = (false, eval a X.env) :: starEach [b] X.env := by rfl) (he2 : starEach [b] X.env = (false, eval b X.env) :: starEach [] X.env := by rfl) (hpl : (backTo pos (starEach [b] X.env)).any (·.1) = false := by rfl) :
    DE X J env (.Call (.Name "_law_words" p) [a, b] [] pos) (encL (rowOf x y)) := cal_de (cal_law_words T) hr (x, y) (da_cons ha (da_cons hb da_nil he2) he) h1 hg he hpl
theorem c_went (T : Txt X.K X.mg) (hr : Room 1 X.A) {x : Log} {y : W} (ha : DE X J env a (enc x)) (hb : DE X J env b (enc y)) (hg : Gl X "went" := by rfl) (he : starEach [a, b] X.env = (false, eval a X.env) :: starEach [b] X.env := by rfl) (he2 : starEach [b] X.env = (false, eval b X.env) :: starEach [] X.env := by rfl) (hpl : (backTo pos (starEach [b] X.env)).any (·.1) = false := by rfl) :
    DE X J env (.Call (.Name "went" p) [a, b] [] pos) (.bl (decide ((W.go, y) ∈ x))) := cal_de (cal_went T) hr (x, y) (da_cons ha (da_cons hb da_nil he2) he) trivial hg he hpl
theorem c_houses_in (T : Txt X.K X.mg) (hr : Room 1 X.A) {x : Setup} (ha : DE X J env a (enc x)) (h1 : x.1.length ≤ 1000) (hg : Gl X "houses_in" := by rfl) (he : starEach [a] X.env = (false, eval a X.env) :: starEach [] X.env := by rfl) (hpl : (backTo pos (starEach [] X.env)).any (·.1) = false := by rfl) :
    DE X J env (.Call (.Name "houses_in" p) [a] [] pos) (encL (housesIn x)) := cal_de (cal_houses_in T) hr x (da_cons ha da_nil he) h1 hg he hpl
end
end Sh
/-! A2: parts_at, counts_of, has_room, house_step. -/
namespace Sh
open PySem PySem.Spec PyProof.Rows L2
open En (enc)
/-- a setup as it must be -/
structure SW (S : Setup) : Prop where
  sn : (S.1.map (·.1)).Nodup
  dn : (S.2.1.map (·.1)).Nodup
  bn : (S.2.2.map (·.1)).Nodup
  pn : ∀ d ∈ S.2.1, (d.2.2.1.map (·.1)).Nodup
  pm : ∀ d ∈ S.2.1, ∀ p ∈ d.2.2.1, p.1 ∈ S.1.map (·.1)
  db : ∀ d ∈ S.2.1, d.2.1 ∈ S.2.2.map (·.1)
  hb : ∀ s ∈ S.1, s.2.1 ≠ .bank ∧ s.2.1 ≠ .shop
  l1 : S.1.length ≤ 3
  l2 : S.2.1.length ≤ 3
  l3 : S.2.2.length ≤ 2
  l4 : ∀ d ∈ S.2.1, d.2.2.1.length ≤ 3
  hh : (housesIn S).length ≤ 2
def homeOf (S : Setup) (x : W) : W := (lookW (S.1.map fun s => (s.1, s.2.1)) x).getD .em
def partsAt (S : Setup) (d h : W) : List Prt := (dealOf S d).2.2.1.filter fun p => decide (homeOf S p.1 = h)
theorem deal_mem {S : Setup} {n : W} (h : n ∈ S.2.1.map (·.1)) : dealOf S n ∈ S.2.1 ∧ (dealOf S n).1 = n := by
  have z := List.mem_of_getElem? (deal_there h)
  rw [List.mem_filter, decide_eq_true_eq] at z
  exact z
theorem lookW_map {α β : Type} {f : α → β} {kvs : List (W × α)} {w : W} : lookW (kvs.map fun p => (p.1, f p.2)) w = (lookW kvs w).map f := by
  induction kvs with
  | nil => rfl
  | cons p r ih =>
    rw [List.map_cons, lookW_cons, lookW_cons, ih]
    split <;> rfl
theorem look_home {S : Setup} {x : W} (h : x ∈ S.1.map (·.1)) : lookW (S.1.map fun s => (s.1, s.2.1)) x = some (homeOf S x) := by
  unfold homeOf
  cases e : lookW (S.1.map fun s => (s.1, s.2.1)) x with
  | some y => rfl
  | none =>
    exfalso
    obtain ⟨s, hs, rfl⟩ := List.mem_map.mp h
    have key : ∀ l : List Sup, s ∈ l → lookW (l.map fun s => (s.1, s.2.1)) s.1 ≠ none := by
      intro l
      induction l with
      | nil => intro h; cases h
      | cons p r ih =>
        intro h
        rw [List.map_cons, lookW_cons]
        by_cases q : p.1 = s.1
        · rw [if_pos q]; simp
        · rw [if_neg q]
          rcases List.mem_cons.mp h with z | z
          · exact absurd (by rw [z]) q
          · exact ih z
    exact key _ hs e
/-- what is bound of each supply, by the word of its deals -/
def bump (c : W → W → Int) (x w : W) (n : Int) : W → W → Int := fun y v => if y = x ∧ v = w then c y v + n else c y v
def cD (ps : List Prt) (w : W) (c : W → W → Int) : W → W → Int := ps.foldl (fun c p => bump c p.1 w p.2) c
def cF (S : Setup) (log : Log) (h : W) (ds : List Deal) (c : W → W → Int) : W → W → Int := ds.foldl (fun c d => if standOf log d.1 ∈ [W.reserved, .sent, .back] then cD (partsAt S d.1 h) (standOf log d.1) c else c) c
def row4 (n : Int) (c : W → Int) : List Int := [n - c .reserved - c .sent - c .back, c .reserved, c .sent, c .back]
def kv4 (S : Setup) (h : W) (c : W → W → Int) : List (W × List Int) := (S.1.filter fun s => decide (s.2.1 = h)).map fun s => (s.1, row4 s.2.2 (c s.1))
def counts (S : Setup) (log : Log) (h : W) : List (W × List Int) := kv4 S h (cF S log h S.2.1 fun _ _ => 0)
def encC (kvs : List (W × List Int)) : List (W × List D) := kvs.map fun p => (p.1, p.2.map D.int)
def encCD (kvs : List (W × List Int)) : D := .dct (wd (kvs.map fun p => (p.1, D.lst (p.2.map D.int))))
theorem putW_map {α β : Type} {f : α → β} {kvs : List (W × α)} {w : W} {x : α} : putW (kvs.map fun p => (p.1, f p.2)) w (f x) = (putW kvs w x).map fun p => (p.1, f p.2) := by
  unfold putW
  have e : (kvs.map fun p => (p.1, f p.2)).any (fun p => decide (p.1 = w)) = kvs.any fun p => decide (p.1 = w) := by rw [List.any_map]; rfl
  rw [e]
  by_cases c : (kvs.any fun p => decide (p.1 = w)) = true
  · rw [if_pos c, if_pos c, List.map_map, List.map_map]
    apply List.map_congr_left
    intro a _
    show (if a.1 = w then (a.1, f x) else (a.1, f a.2)) = (fun p : W × α => (p.1, f p.2)) (if a.1 = w then (a.1, x) else a)
    split <;> rfl
  · rw [if_neg c, if_neg c, List.map_append]; rfl
theorem kv4_keys (S : Setup) (h : W) (c : W → W → Int) : (kv4 S h c).map (·.1) = (S.1.filter fun s => decide (s.2.1 = h)).map (·.1) := by
  unfold kv4; rw [List.map_map]; rfl
theorem kv4_nodup {S : Setup} (wf : SW S) (h : W) (c : W → W → Int) : ((kv4 S h c).map (·.1)).Nodup := by
  rw [kv4_keys]
  exact List.Sublist.nodup (List.Sublist.map _ List.filter_sublist) wf.sn
/-- the supply of a name -/
theorem home_at {S : Setup} (wf : SW S) {x h : W} (hx : x ∈ S.1.map (·.1)) (e : homeOf S x = h) : ∃ s ∈ S.1, s.1 = x ∧ s.2.1 = h := by
  have z := lookW_some_mem (look_home hx)
  obtain ⟨s, hs, es⟩ := List.mem_map.mp z
  have e1 : s.1 = x := congrArg Prod.fst es
  have e2 : s.2.1 = homeOf S x := congrArg Prod.snd es
  exact ⟨s, hs, e1, e2.trans e⟩
theorem kv4_look {S : Setup} (wf : SW S) {h : W} (c : W → W → Int) {s : Sup} (hs : s ∈ S.1) (e : s.2.1 = h) : lookW (kv4 S h c) s.1 = some (row4 s.2.2 (c s.1)) :=
  lookW_of_mem (kv4_nodup wf h c) (List.mem_map.mpr ⟨s, List.mem_filter.mpr ⟨hs, by simpa using e⟩, rfl⟩)
theorem kv4_put {S : Setup} (wf : SW S) {h : W} (c : W → W → Int) {s : Sup} (hs : s ∈ S.1) (e : s.2.1 = h) (c' : W → W → Int) (off : ∀ y, y ≠ s.1 → c' y = c y) : putW (kv4 S h c) s.1 (row4 s.2.2 (c' s.1)) = kv4 S h c' := by
  unfold putW
  have m : s.1 ∈ (kv4 S h c).map (·.1) := by
    rw [kv4_keys]
    exact List.mem_map.mpr ⟨s, List.mem_filter.mpr ⟨hs, by simpa using e⟩, rfl⟩
  obtain ⟨p, hp, ep⟩ := List.mem_map.mp m
  rw [if_pos (List.any_eq_true.mpr ⟨p, hp, decide_eq_true ep⟩)]
  unfold kv4
  rw [List.map_map]
  apply List.map_congr_left
  intro a ha
  have ha' := (List.mem_filter.mp ha).1
  show (if a.1 = s.1 then (a.1, row4 s.2.2 (c' s.1)) else (a.1, row4 a.2.2 (c a.1))) = (a.1, row4 a.2.2 (c' a.1))
  by_cases q : a.1 = s.1
  · have ea : a = s := by
      have key : ∀ l : List Sup, (l.map (·.1)).Nodup → a ∈ l → s ∈ l → a = s := by
        intro l
        induction l with
        | nil => intro _ h; cases h
        | cons z r ih =>
          intro nd h1 h2
          rw [List.map_cons, List.nodup_cons] at nd
          rcases List.mem_cons.mp h1 with y1 | y1
          · rcases List.mem_cons.mp h2 with y2 | y2
            · rw [y1, y2]
            · exact absurd (List.mem_map.mpr ⟨s, y2, by rw [← q, y1]⟩) nd.1
          · rcases List.mem_cons.mp h2 with y2 | y2
            · exact absurd (List.mem_map.mpr ⟨a, y1, by rw [q, y2]⟩) nd.1
            · exact ih nd.2 y1 y2
      exact key _ wf.sn ha' hs
    rw [if_pos q, ea]
  · rw [if_neg q, off _ q]
def placeOf : W → Nat
  | .reserved => 1
  | .sent => 2
  | .back => 3
  | _ => 0
theorem bump_off {c : W → W → Int} {x w : W} {n : Int} {y : W} (h : y ≠ x) : bump c x w n y = c y := by
  funext v
  unfold bump
  rw [if_neg fun z => h z.1]
theorem row_bump {n : Int} {c : W → W → Int} {x w : W} {k : Int} (hw : w = .reserved ∨ w = .sent ∨ w = .back) :
    (((row4 n (c x)).map D.int).set 0 (.int (n - c x .reserved - c x .sent - c x .back - k))).set (placeOf w) (.int (c x w + k)) = (row4 n (bump c x w k x)).map D.int := by
  rcases hw with e | e | e <;> subst e <;> simp [row4, bump, placeOf] <;> omega
section
variable {P : Program} {w : World} {K : PySem.W.Frag} {mg : Str → Option Value} {base : Heap}
theorem sc_parts_at : FnScope ["setup", "deal", "house", "homes", "supply", "part"] ["setup", "deal", "house"] (defScope (top 6)) := ⟨rfl, rfl, rfl, by decide +kernel, rfl, by decide +kernel, by decide +kernel⟩
theorem cal_parts_at (T : Txt K mg) : Cal P w K mg base "parts_at" 2 ["setup", "deal", "house"] (spT K J0 (fun a : Setup × W × W => [enc a.1, enc a.2.1, enc a.2.2]) (fun a => SW a.1 ∧ a.2.1 ∈ a.1.2.1.map (·.1)) (fun a d => d = encL (partsAt a.1 a.2.1 a.2.2))) := by
  refine cal_of T.d_parts_at fun f fd F => fn_ok F sc_parts_at (fun _ => rfl) fun cdv A outer s H E a hr pre => ?_
  obtain ⟨S, d, h⟩ := a
  obtain ⟨wf, hd⟩ := pre
  have l1 : S.1.length ≤ 3 := wf.l1
  have l2 : S.2.1.length ≤ 3 := wf.l2
  refine db_cons (ds_setD (i := 3) (de_dc (xs := S.1) (f := enc) (p := fun _ => true) (kw := fun s => s.1) (g := fun s => enc s.2.1) (t := .nm 4) (own := [("supply", 4)]) (di_tup (de_ixn 0 (de_var (i := 0) rfl) rfl)) rfl sc_parts_at.nd (blkOk_by (N := ["setup", "deal", "house", "homes", "supply", "part"]) (sc := defScope (top 6)) (by decide +kernel)) (by decide) (fun _ _ _ _ _ => (pg_name (i := 4) sc_parts_at.nd rfl (Or.inl rfl))) (fun _ => .nm _ _ _)
    (fun _ _ _ _ _ x hx => dts_nil) (fun _ _ _ _ _ x hx _ => de_ixn 0 (de_var (i := 4) rfl) rfl) (fun _ _ _ _ _ x hx _ => de_ixn 1 (de_var (i := 4) rfl) rfl) (small (m := 3) l1) (by rw [List.filter_eq_self.mpr (fun _ _ => rfl)]; exact wf.sn)) sc_parts_at.nd ?_)
  rw [List.filter_eq_self.mpr (fun _ _ => rfl)]
  have dm := deal_mem hd
  refine db_cons (ds_retD (de_fe (df_lc (xs := (dealOf S d).2.2.1) (f := enc) (p := fun p => decide (homeOf S p.1 = h)) (g := enc) (t := .nm 5) (own := [("part", 5)]) (di_tup (de_ixn 2 (c_deal_of T (hr.mono (by decide)) (x := S) (y := d) (de_var (i := 0) rfl) (de_var (i := 1) rfl) hd (by omega)) rfl)) rfl sc_parts_at.nd (blkOk_by (N := ["setup", "deal", "house", "homes", "supply", "part"]) (sc := defScope (top 6)) (by decide +kernel)) (by decide) (fun _ _ _ _ _ => (pg_name (i := 5) sc_parts_at.nd rfl (Or.inl rfl))) (fun _ => .nm _ _ _)
    (fun _ _ _ _ _ x hx => dts_one (dt_eq hr (x := homeOf S x.1) (y := h) (de_dget hr (kvs := S.1.map fun s => (s.1, enc s.2.1)) (w := x.1) (de_var (i := 3) rfl) (de_ixn 0 (de_var (i := 5) rfl) rfl) ?_) (de_var (i := 2) rfl))) (fun _ _ _ _ _ x hx hp => (de_var (i := 5) rfl)) (small (wf.l4 _ dm.1)))) rfl)
  have z := lookW_map (f := (enc : W → D)) (kvs := S.1.map fun s => (s.1, s.2.1)) (w := x.1)
  rw [List.map_map] at z
  rw [look_home (wf.pm _ dm.1 x hx)] at z
  exact z
end
section
variable {X : Cx} {J : Jn} {env : List SL} {a b c d e f : Expr} {pos p : Pos}
theorem c_parts_at (T : Txt X.K X.mg) (hr : Room 2 X.A) {x : Setup} {y : W} {z : W} (ha : DE X J env a (enc x)) (hb : DE X J env b (enc y)) (hc : DE X J env c (enc z)) (h1 : SW x) (h2 : y ∈ x.2.1.map (·.1)) (hg : Gl X "parts_at" := by rfl) (s0 : starEach [a, b, c] X.env = (false, eval a X.env) :: starEach [b, c] X.env := by rfl) (s1 : starEach [b, c] X.env = (false, eval b X.env) :: starEach [c] X.env := by rfl) (s2 : starEach [c] X.env = (false, eval c X.env) :: starEach [] X.env := by rfl) (hpl : (backTo pos (starEach [b, c] X.env)).any (·.1) = false := by rfl) :
    DE X J env (.Call (.Name "parts_at" p) [a, b, c] [] pos) (encL (partsAt x y z)) := cal_de (cal_parts_at T) hr (x, y, z) (da_cons ha (da_cons hb (da_cons hc da_nil s2) s1) s0) ⟨h1, h2⟩ hg s0 hpl
end
end Sh
/-! A3: counts_of, has_room, house_step. -/
namespace Sh
open PySem PySem.Spec PyProof.Rows L2
open En (enc)
theorem lookW_put {α : Type} {kvs : List (W × α)} {w : W} {x : α} (h : w ∈ kvs.map (·.1)) : lookW (putW kvs w x) w = some x := by
  unfold putW
  obtain ⟨p, hp, e⟩ := List.mem_map.mp h
  rw [if_pos (List.any_eq_true.mpr ⟨p, hp, decide_eq_true e⟩)]
  clear hp e p
  induction kvs with
  | nil => cases h
  | cons p r ih =>
    rw [List.map_cons, lookW_cons]
    by_cases q : p.1 = w
    · rw [if_pos (by rw [if_pos q]; exact q), if_pos q]
    · rw [if_neg (by rw [if_neg q]; exact q)]
      rcases List.mem_cons.mp h with z | z
      · exact absurd z.symm q
      · exact ih z
theorem putW_putW {α : Type} {kvs : List (W × α)} {w : W} {x y : α} (h : w ∈ kvs.map (·.1)) : putW (putW kvs w x) w y = putW kvs w y := by
  have h2 : w ∈ (putW kvs w x).map (·.1) := by rw [putW_keys h]; exact h
  obtain ⟨p, hp, e⟩ := List.mem_map.mp h
  obtain ⟨p2, hp2, e2⟩ := List.mem_map.mp h2
  have k1 : putW kvs w x = kvs.map fun p => if p.1 = w then (p.1, x) else p := by unfold putW; rw [if_pos (List.any_eq_true.mpr ⟨p, hp, decide_eq_true e⟩)]
  have k2 : putW kvs w y = kvs.map fun p => if p.1 = w then (p.1, y) else p := by unfold putW; rw [if_pos (List.any_eq_true.mpr ⟨p, hp, decide_eq_true e⟩)]
  have k3 : putW (putW kvs w x) w y = (putW kvs w x).map fun p => if p.1 = w then (p.1, y) else p := by
    unfold putW
    unfold putW at hp2
    rw [if_pos (List.any_eq_true.mpr ⟨p2, hp2, decide_eq_true e2⟩)]
  rw [k3, k1, k2, List.map_map]
  apply List.map_congr_left
  intro a _
  show (if (if a.1 = w then (a.1, x) else a).1 = w then ((if a.1 = w then (a.1, x) else a).1, y) else (if a.1 = w then (a.1, x) else a)) = if a.1 = w then (a.1, y) else a
  by_cases q : a.1 = w
  · simp [q]
  · simp [q]
theorem encC_keys (kvs : List (W × List Int)) : (encC kvs).map (·.1) = kvs.map (·.1) := by unfold encC; rw [List.map_map]; rfl
theorem encC_look (kvs : List (W × List Int)) (w : W) : lookW (encC kvs) w = (lookW kvs w).map fun r => r.map D.int := lookW_map (f := fun r : List Int => r.map D.int)
theorem encC_put (kvs : List (W × List Int)) (w : W) (r : List Int) : putW (encC kvs) w (r.map D.int) = encC (putW kvs w r) := putW_map (f := fun r : List Int => r.map D.int)
theorem encCD_eq (kvs : List (W × List Int)) : (frz (.own (.dl (wd (encC kvs))))) = .d (encCD kvs) := by
  show SL.d (.dct _) = SL.d (.dct _)
  unfold encC wd
  rw [List.map_map, List.map_map, List.map_map]
  rfl
theorem cF_snoc (S : Setup) (log : Log) (h : W) (ds : List Deal) (d : Deal) (c : W → W → Int) : cF S log h (ds ++ [d]) c = if standOf log d.1 ∈ [W.reserved, .sent, .back] then cD (partsAt S d.1 h) (standOf log d.1) (cF S log h ds c) else cF S log h ds c := by
  unfold cF; rw [List.foldl_append]; rfl
theorem cD_snoc (ps : List Prt) (p : Prt) (w : W) (c : W → W → Int) : cD (ps ++ [p]) w c = bump (cD ps w c) p.1 w p.2 := by
  unfold cD; rw [List.foldl_append]; rfl
/-- one part entered, in two stores -/
theorem part_put {S : Setup} (wf : SW S) {h : W} (c : W → W → Int) {s : Sup} (hs : s ∈ S.1) (e : s.2.1 = h) {w : W} (hw : w = .reserved ∨ w = .sent ∨ w = .back) (k : Int) :
    putW (encC (kv4 S h c)) s.1 (((((row4 s.2.2 (c s.1)).map D.int).set 0 (.int (s.2.2 - c s.1 .reserved - c s.1 .sent - c s.1 .back - k))).set (placeOf w) (.int (c s.1 w + k)))) = encC (kv4 S h (bump c s.1 w k)) := by
  rw [row_bump hw, encC_put, kv4_put wf c hs e _ fun y hy => bump_off hy]
theorem row_place {n : Int} {c : W → Int} {w : W} (hw : w = .reserved ∨ w = .sent ∨ w = .back) (z : D) : (((row4 n c).map D.int).set 0 z)[placeOf w]? = some (.int (c w)) := by
  rcases hw with e | e | e <;> subst e <;> rfl
def hasRoom (S : Setup) (log : Log) (h d : W) : Bool := (partsAt S d h).all fun p => decide (p.2 ≤ (((lookW (counts S log h) p.1).getD [])[0]?).getD 0)
abbrev encO : Option W → D
  | none => .non
  | some w => enc w
def houseStep (S : Setup) (log : Log) (h w d : W) : Log × Option W :=
  if w = .reserve then
    (if ¬ standOf log d = .em then (log, some (if standOf log d = .released then .released else .reserved))
    else if hasRoom S log h d = true then (log ++ [(.reserved, d)], some .reserved) else (log, some .full))
  else if w = .send ∧ standOf log d ∈ [W.reserved, .sent, .back] then (if standOf log d = .reserved then log ++ [(.sent, d)] else log, some .sent)
  else if w = .release ∧ standOf log d ∈ [W.em, .reserved, .released] then (if standOf log d = .released then log else log ++ [(.released, d)], some .released)
  else if w = .restock ∧ standOf log d ∈ [W.sent, .back] then (if standOf log d = .sent then log ++ [(.back, d)] else log, some .restocked)
  else (log, none)
section
variable {P : Program} {w : World} {K : PySem.W.Frag} {mg : Str → Option Value} {base : Heap}
theorem sc_counts_of : FnScope ["setup", "log", "house", "supply", "found", "deal", "stand", "place", "count", "one"] ["setup", "log", "house"] (defScope (top 9)) := ⟨rfl, rfl, rfl, by decide +kernel, rfl, by decide +kernel, by decide +kernel⟩
theorem cal_counts_of (T : Txt K mg) : Cal P w K mg base "counts_of" 3 ["setup", "log", "house"] (spT K J0 (fun a : Setup × Log × W => [enc a.1, enc a.2.1, enc a.2.2]) (fun a => SW a.1) (fun a d => d = encCD (counts a.1 a.2.1 a.2.2))) := by
  refine cal_of T.d_counts_of fun f fd F => fn_ok F sc_counts_of (fun _ => rfl) fun cdv A outer s H E a hr pre => ?_
  obtain ⟨S, log, h⟩ := a
  have wf : SW S := pre
  have l1 : S.1.length ≤ 3 := wf.l1
  have l2 : S.2.1.length ≤ 3 := wf.l2
  refine db_cons (ds_setDl (i := 4) (xs := S.1) (f := enc) (p := fun s => decide (s.2.1 = h)) (kw := fun s => s.1) (g := fun s => [enc s.2.2, .int 0, .int 0, .int 0]) (t := .nm 3) (own := [("supply", 3)]) (di_tup (de_ixn 0 (de_var (i := 0) rfl) rfl)) sc_counts_of.nd (blkOk_by (N := ["setup", "log", "house", "supply", "found", "deal", "stand", "place", "count", "one"]) (sc := defScope (top 9)) (by decide +kernel)) (by decide) (fun _ _ _ _ _ => (pg_name (i := 3) sc_counts_of.nd rfl (Or.inl rfl))) (fun _ => .nm _ _ _)
    (fun _ _ _ _ _ x hx => dts_one (dt_eq hr (x := x.2.1) (y := h) (de_ixn 1 (de_var (i := 3) rfl) rfl) (de_var (i := 2) rfl))) (fun _ _ _ _ _ x hx _ => de_ixn 0 (de_var (i := 3) rfl) rfl) (fun _ _ _ _ _ x hx _ => df_lst (da_cons (de_ixn 2 (de_var (i := 3) rfl) rfl) (da_cons de_int (da_cons de_int (da_cons de_int da_nil))))) (small (m := 3) l1) (List.Sublist.nodup (List.Sublist.map _ List.filter_sublist) wf.sn) ?_)
  have e0 : ((S.1.filter fun s => decide (s.2.1 = h)).map fun s => (s.1, [enc s.2.2, D.int 0, .int 0, .int 0])) = encC (kv4 S h (cF S log h (S.2.1.take 0) fun _ _ => 0)) := by
    unfold encC kv4
    rw [List.map_map]
    apply List.map_congr_left
    intro x _
    show (x.1, [D.int x.2.2, D.int 0, D.int 0, D.int 0]) = (x.1, [D.int (x.2.2 - 0 - 0 - 0), D.int 0, D.int 0, D.int 0])
    rw [Int.sub_zero, Int.sub_zero, Int.sub_zero]
  rw [e0]
  refine db_cons (ds_for (xs := S.2.1) (f := fun d => enc d.1) (t := .nm 5) (di_lst (de_fe (df_lc0 (xs := S.2.1) (f := enc) (g := fun d => enc d.1) (t := .nm 9) (own := [("one", 9)]) (di_tup (de_ixn 1 (de_var (i := 0) rfl) rfl)) rfl sc_counts_of.nd (blkOk_by (N := ["setup", "log", "house", "supply", "found", "deal", "stand", "place", "count", "one"]) (sc := defScope (top 9)) (by decide +kernel)) (by decide) (fun _ _ _ _ _ => (pg_name (i := 9) sc_counts_of.nd rfl (Or.inl rfl))) (fun _ => .nm _ _ _) (fun _ _ _ _ _ x hx => (de_ixn 0 (de_var (i := 9) rfl) rfl)) (small (m := 3) l2))))
    (fun i env => ∃ x3 x5 x6 x7 x8 x9, env = [.d (enc S), .d (enc log), .d (enc h), x3, .own (.dl (wd (encC (kv4 S h (cF S log h (S.2.1.take i) fun _ _ => 0))))), x5, x6, x7, x8, x9]) ⟨_, _, _, _, _, _, rfl⟩ ?_ ?_ ?_ PassesOwn.never)
  · rintro i d _ hd ⟨x3, x5, x6, x7, x8, x9, rfl⟩
    have hdm : d ∈ S.2.1 := List.mem_of_getElem? hd
    have hdn : d.1 ∈ S.2.1.map (·.1) := List.mem_map.mpr ⟨d, hdm, rfl⟩
    refine ⟨_, .nm _ _ _, ?_⟩
    rw [take_succ_of hd, cF_snoc]
    generalize cF S log h (S.2.1.take i) (fun _ _ => 0) = c
    refine db_cons (ds_setD (i := 6) (c_stand_of T (hr.mono (by decide)) (x := log) (y := d.1) (de_var (i := 1) rfl) (de_var (i := 5) rfl)) sc_counts_of.nd ?_)
    refine db_cons (ds_if (dt_in hr (x := standOf log d.1) (ys := [W.reserved, .sent, .back]) (de_var (i := 6) rfl) (de_tup (da_cons (de_gW T.c_RESERVED) (da_cons (de_gW T.c_SENT) (da_cons (de_gW T.c_BACK) da_nil)))) (.tup _)) (fun hm => ?_) (fun hm => ?_))
    · rw [decide_eq_true_eq] at hm
      rw [if_pos hm]
      have hw : standOf log d.1 = .reserved ∨ standOf log d.1 = .sent ∨ standOf log d.1 = .back := by simpa using hm
      generalize standOf log d.1 = st at hw hm ⊢
      refine db_cons (ds_setD (i := 7) (d := .int (placeOf st : Nat)) (de_dget hr (kvs := [(W.reserved, .int 1), (.sent, .int 2), (.back, .int 3)]) (w := st) (de_disp (dps_cons (de_gW T.c_RESERVED) de_int (dps_cons (de_gW T.c_SENT) de_int (dps_cons (de_gW T.c_BACK) de_int dps_nil))) (by decide) (by decide)) (de_var (i := 6) rfl) (by rcases hw with e | e | e <;> subst e <;> rfl)) sc_counts_of.nd ?_)
      refine db_cons (ds_for (xs := partsAt S d.1 h) (f := enc) (t := .tp [3, 8]) (di_lst (c_parts_at T (hr.mono (by decide)) (x := S) (y := d.1) (z := h) (de_var (i := 0) rfl) (de_var (i := 5) rfl) (de_var (i := 2) rfl) wf hdn))
        (fun j env => ∃ y3 y8, env = [.d (enc S), .d (enc log), .d (enc h), y3, .own (.dl (wd (encC (kv4 S h (cD ((partsAt S d.1 h).take j) st c))))), .d (enc d.1), .d (enc st), .d (.int (placeOf st : Nat)), y8, x9]) ⟨_, _, rfl⟩ ?_ ?_ ?_ PassesOwn.never)
      · rintro j q _ hq ⟨y3, y8, rfl⟩
        have hqm : q ∈ partsAt S d.1 h := List.mem_of_getElem? hq
        have hq2 := List.mem_filter.mp hqm
        have dm := deal_mem hdn
        obtain ⟨s, hs, es1, es2⟩ := home_at wf (wf.pm _ dm.1 q hq2.1) (of_decide_eq_true hq2.2)
        refine ⟨_, .tp _ _ _ rfl, ?_⟩
        rw [take_succ_of hq, cD_snoc]
        generalize cD ((partsAt S d.1 h).take j) st c = c1
        have hk : s.1 ∈ (encC (kv4 S h c1)).map (·.1) := by rw [encC_keys, kv4_keys]; exact List.mem_map.mpr ⟨s, List.mem_filter.mpr ⟨hs, by simpa using es2⟩, rfl⟩
        have hl : lookW (encC (kv4 S h c1)) q.1 = some ((row4 s.2.2 (c1 s.1)).map D.int) := by rw [encC_look, ← es1, kv4_look wf c1 hs es2]; rfl
        have nk : ((encC (kv4 S h c1)).map (·.1)).Nodup := by rw [encC_keys]; exact kv4_nodup wf h c1
        refine db_cons (ds_augDl (i := 4) (k := 2) (kvs := encC (kv4 S h c1)) (w := q.1) (xs := (row4 s.2.2 (c1 s.1)).map D.int) (n := 0) (m := s.2.2 - c1 s.1 .reserved - c1 s.1 .sent - c1 s.1 .back) (c := q.2) (hr.mono (by decide)) rfl (de_var (i := 3) rfl) de_int (de_var (i := 8) rfl) ip_sub nk hl rfl ?_)
        have hk1 : q.1 ∈ (encC (kv4 S h c1)).map (·.1) := by rw [← es1]; exact hk
        refine db_cons (ds_augDl (i := 4) (k := 2) (kvs := putW (encC (kv4 S h c1)) q.1 (((row4 s.2.2 (c1 s.1)).map D.int).set 0 (.int (s.2.2 - c1 s.1 .reserved - c1 s.1 .sent - c1 s.1 .back - q.2)))) (w := q.1) (xs := ((row4 s.2.2 (c1 s.1)).map D.int).set 0 (.int (s.2.2 - c1 s.1 .reserved - c1 s.1 .sent - c1 s.1 .back - q.2))) (n := placeOf st) (m := c1 s.1 st) (c := q.2) (hr.mono (by decide)) rfl (de_var (i := 3) rfl) (de_var (i := 7) rfl) (de_var (i := 8) rfl) ip_add (by rw [putW_keys hk1]; exact nk) (lookW_put hk1) (row_place hw _) ?_)
        have e9 : putW (encC (kv4 S h c1)) q.1 (((((row4 s.2.2 (c1 s.1)).map D.int).set 0 (.int (s.2.2 - c1 s.1 .reserved - c1 s.1 .sent - c1 s.1 .back - q.2))).set (placeOf st) (.int (c1 s.1 st + q.2)))) = encC (kv4 S h (bump c1 q.1 st q.2)) := by rw [← es1]; exact part_put wf c1 hs es2 hw q.2
        refine db_nil ⟨.d (enc q.1), .d (enc q.2), ?_⟩
        rw [putW_putW hk1, e9]
        rfl
      · rintro _ ⟨y3, y8, rfl⟩
        rw [List.take_length]
        exact db_nil (db_nil ⟨_, _, _, _, _, _, rfl⟩)
      · exact (pg_tup rfl (pgs_cons (pg_name (i := 3) sc_counts_of.nd rfl (Or.inl rfl)) (pgs_cons (pg_name (i := 8) sc_counts_of.nd rfl (Or.inl rfl)) pgs_nil)))
    · rw [decide_eq_false_iff_not] at hm
      rw [if_neg hm]
      exact db_nil (db_nil ⟨_, _, _, _, _, _, rfl⟩)
  · rintro _ ⟨x3, x5, x6, x7, x8, x9, rfl⟩
    rw [List.take_length]
    refine db_cons (ds_retD (d := encCD (counts S log h)) (de_var (i := 4) ?_) rfl)
    show some (frz (.own (.dl (wd (encC _))))) = _
    rw [encCD_eq]
    rfl
  · exact (pg_name (i := 5) sc_counts_of.nd rfl (Or.inl rfl))
end
section
variable {X : Cx} {J : Jn} {env : List SL} {a b c d e f : Expr} {pos p : Pos}
theorem c_counts_of (T : Txt X.K X.mg) (hr : Room 3 X.A) {x : Setup} {y : Log} {z : W} (ha : DE X J env a (enc x)) (hb : DE X J env b (enc y)) (hc : DE X J env c (enc z)) (h1 : SW x) (hg : Gl X "counts_of" := by rfl) (s0 : starEach [a, b, c] X.env = (false, eval a X.env) :: starEach [b, c] X.env := by rfl) (s1 : starEach [b, c] X.env = (false, eval b X.env) :: starEach [c] X.env := by rfl) (s2 : starEach [c] X.env = (false, eval c X.env) :: starEach [] X.env := by rfl) (hpl : (backTo pos (starEach [b, c] X.env)).any (·.1) = false := by rfl) :
    DE X J env (.Call (.Name "counts_of" p) [a, b, c] [] pos) (encCD (counts x y z)) := cal_de (cal_counts_of T) hr (x, y, z) (da_cons ha (da_cons hb (da_cons hc da_nil s2) s1) s0) h1 hg s0 hpl
end
end Sh
/-! A4: has_room, house_step. -/
namespace Sh
open PySem PySem.Spec PyProof.Rows L2
open En (enc)
section
variable {P : Program} {w : World} {K : PySem.W.Frag} {mg : Str → Option Value} {base : Heap}
theorem counts_look {S : Setup} (wf : SW S) (log : Log) {h d : W} (hd : d ∈ S.2.1.map (·.1)) {p : Prt} (hp : p ∈ partsAt S d h) : ∃ n r, lookW (counts S log h) p.1 = some (n :: r) := by
  have hq2 := List.mem_filter.mp hp
  have dm := deal_mem hd
  obtain ⟨s, hs, es1, es2⟩ := home_at wf (wf.pm _ dm.1 p hq2.1) (of_decide_eq_true hq2.2)
  exact ⟨_, _, by rw [← es1]; exact kv4_look wf _ hs es2⟩
theorem sc_has_room : FnScope ["setup", "log", "house", "deal", "counts", "supply", "count"] ["setup", "log", "house", "deal"] (defScope (top 10)) := ⟨rfl, rfl, rfl, by decide +kernel, rfl, by decide +kernel, by decide +kernel⟩
theorem cal_has_room (T : Txt K mg) : Cal P w K mg base "has_room" 4 ["setup", "log", "house", "deal"] (spT K J0 (fun a : Setup × Log × W × W => [enc a.1, enc a.2.1, enc a.2.2.1, enc a.2.2.2]) (fun a => SW a.1 ∧ a.2.2.2 ∈ a.1.2.1.map (·.1)) (fun a d => d = .bl (hasRoom a.1 a.2.1 a.2.2.1 a.2.2.2))) := by
  refine cal_of T.d_has_room fun f fd F => fn_ok F sc_has_room (fun _ => rfl) fun cdv A outer s H E a hr pre => ?_
  obtain ⟨S, log, h, d⟩ := a
  obtain ⟨wf, hd⟩ := pre
  have hd' : d ∈ S.2.1.map (·.1) := hd
  have l4 : (dealOf S d).2.2.1.length ≤ 3 := wf.l4 _ (deal_mem hd').1
  have lp : (partsAt S d h).length ≤ 3 := Nat.le_trans (List.length_filter_le _ _) l4
  refine db_cons (ds_setD (i := 4) (c_counts_of T (hr.mono (by decide)) (x := S) (y := log) (z := h) (de_var (i := 0) rfl) (de_var (i := 1) rfl) (de_var (i := 2) rfl) wf) sc_has_room.nd ?_)
  refine db_cons (ds_retD (de_allF (xs := partsAt S d h) (g := fun p => decide (p.2 ≤ (((lookW (counts S log h) p.1).getD [])[0]?).getD 0)) T.f_all (df_lc0 (xs := partsAt S d h) (f := enc) (t := .tp [5, 6]) (own := [("supply", 5), ("count", 6)]) (di_lst (c_parts_at T (hr.mono (by decide)) (x := S) (y := d) (z := h) (de_var (i := 0) rfl) (de_var (i := 3) rfl) (de_var (i := 2) rfl) wf hd')) rfl sc_has_room.nd (blkOk_by (N := ["setup", "log", "house", "deal", "counts", "supply", "count"]) (sc := defScope (top 10)) (by decide +kernel)) (by decide) (fun _ _ _ _ _ => (pg_tup rfl (pgs_cons (pg_name (i := 5) sc_has_room.nd rfl (Or.inl rfl)) (pgs_cons (pg_name (i := 6) sc_has_room.nd rfl (Or.inl rfl)) pgs_nil)))) (fun _ => .tp _ _ _ rfl)
    (fun _ _ _ _ _ x hx => ?_) (small lp))) rfl)
  obtain ⟨n, r, e⟩ := counts_look wf log hd' hx
  have e2 : lookW ((counts S log h).map fun p => (p.1, D.lst (p.2.map D.int))) x.1 = some (.lst ((n :: r).map D.int)) := by
    rw [lookW_map (f := fun r : List Int => D.lst (r.map D.int)), e]; rfl
  have z : (((lookW (counts S log h) x.1).getD [])[0]?).getD 0 = n := by rw [e]; rfl
  rw [z]
  exact de_ge (i := n) (j := x.2) (de_ixnL 0 (de_dget hr (w := x.1) (de_var (i := 4) rfl) (de_var (i := 5) rfl) e2) rfl) (de_var (i := 6) rfl)
end
section
variable {X : Cx} {J : Jn} {env : List SL} {a b c d e f : Expr} {pos p : Pos}
theorem c_has_room (T : Txt X.K X.mg) (hr : Room 4 X.A) {x : Setup} {y : Log} {z : W} {u : W} (ha : DE X J env a (enc x)) (hb : DE X J env b (enc y)) (hc : DE X J env c (enc z)) (hd : DE X J env d (enc u)) (h1 : SW x) (h2 : u ∈ x.2.1.map (·.1)) (hg : Gl X "has_room" := by rfl) (s0 : starEach [a, b, c, d] X.env = (false, eval a X.env) :: starEach [b, c, d] X.env := by rfl) (s1 : starEach [b, c, d] X.env = (false, eval b X.env) :: starEach [c, d] X.env := by rfl) (s2 : starEach [c, d] X.env = (false, eval c X.env) :: starEach [d] X.env := by rfl) (s3 : starEach [d] X.env = (false, eval d X.env) :: starEach [] X.env := by rfl) (hpl : (backTo pos (starEach [b, c, d] X.env)).any (·.1) = false := by rfl) :
    DE X J env (.Call (.Name "has_room" p) [a, b, c, d] [] pos) (.bl (hasRoom x y z u)) := cal_de (cal_has_room T) hr (x, y, z, u) (da_cons ha (da_cons hb (da_cons hc (da_cons hd da_nil s3) s2) s1) s0) ⟨h1, h2⟩ hg s0 hpl
end
theorem em_ite {c : Prop} [Decidable c] {α : Type} [En α] {x y : α} : (if decide c = true then enc x else enc y) = enc (if c then x else y) := by
  by_cases h : c
  · simp [h]
  · simp [h]
theorem em_ite2 {c : Prop} [Decidable c] {α : Type} [En α] {x y : α} {d e : D} (h1 : d = enc x) (h2 : e = enc y) : (if decide c = true then d else e) = enc (if c then x else y) := by rw [h1, h2]; exact em_ite
theorem enc_snoc {α : Type} [En α] (xs : List α) (x : α) : D.tup (xs.map enc ++ [enc x]) = enc (xs ++ [x]) := by
  show D.tup _ = D.tup _
  rw [List.map_append]; rfl
section
variable {P : Program} {w : World} {K : PySem.W.Frag} {mg : Str → Option Value} {base : Heap}
theorem sc_house_step : FnScope ["setup", "log", "house", "word", "deal", "stand"] ["setup", "log", "house", "word", "deal"] (defScope (top 11)) := ⟨rfl, rfl, rfl, by decide +kernel, rfl, by decide +kernel, by decide +kernel⟩
theorem cal_house_step (T : Txt K mg) : Cal P w K mg base "house_step" 5 ["setup", "log", "house", "word", "deal"] (spT K J0 (fun a : Setup × Log × W × W × W => [enc a.1, enc a.2.1, enc a.2.2.1, enc a.2.2.2.1, enc a.2.2.2.2]) (fun a => SW a.1 ∧ a.2.2.2.2 ∈ a.1.2.1.map (·.1) ∧ a.2.1.length ≤ 1000)
    (fun a d => d = .tup [enc (houseStep a.1 a.2.1 a.2.2.1 a.2.2.2.1 a.2.2.2.2).1, encO (houseStep a.1 a.2.1 a.2.2.1 a.2.2.2.1 a.2.2.2.2).2])) := by
  refine cal_of T.d_house_step fun f fd F => fn_ok F sc_house_step (fun _ => rfl) fun cdv A outer s H E a hr pre => ?_
  obtain ⟨S, log, hs, wo, dl⟩ := a
  obtain ⟨wf, hd, hz⟩ := pre
  have hd' : dl ∈ S.2.1.map (·.1) := hd
  have hz' : log.length ≤ 1000 := hz
  have hcat : (log.map enc).length + [enc (W.reserved, dl)].length ≤ sizeLine := by rw [List.length_map]; exact Nat.le_of_lt (small (m := 1001) (by show log.length + 1 ≤ 1001; omega))
  show DB _ _ _ _ _ fun d => d = .tup [enc (houseStep S log hs wo dl).1, encO (houseStep S log hs wo dl).2]
  unfold houseStep
  refine db_cons (ds_setD (i := 5) (c_stand_of T (hr.mono (by decide)) (x := log) (y := dl) (de_var (i := 1) rfl) (de_var (i := 4) rfl)) sc_house_step.nd ?_)
  refine db_cons (ds_if (dt_eq hr (x := wo) (y := W.reserve) (de_var (i := 3) rfl) (de_W .reserve)) (fun h => ?_) (fun h => ?_))
  · rw [decide_eq_true_eq] at h
    rw [if_pos h]
    refine db_cons (ds_if (dt_ne hr (x := standOf log dl) (y := W.em) (de_var (i := 5) rfl) (de_W .em)) (fun h2 => ?_) (fun h2 => ?_))
    · rw [Bool.not_eq_true', decide_eq_false_iff_not] at h2
      rw [if_pos h2]
      refine db_cons (ds_retD (de_tup (da_cons (de_var (i := 1) rfl) (da_cons (de_ite (dt_eq hr (x := standOf log dl) (y := W.released) (de_var (i := 5) rfl) (de_gW T.c_RELEASED)) (fun _ => (de_gW T.c_RELEASED)) (fun _ => (de_gW T.c_RESERVED))) da_nil))) ?_)
      rw [em_ite]
    · rw [Bool.not_eq_false', decide_eq_true_eq] at h2
      rw [if_neg (fun z => z h2)]
      refine db_nil ?_
      refine db_cons (ds_if (dt_val (c_has_room T (hr.mono (by decide)) (x := S) (y := log) (z := hs) (u := dl) (de_var (i := 0) rfl) (de_var (i := 1) rfl) (de_var (i := 2) rfl) (de_var (i := 4) rfl) wf hd')) (fun h3 => ?_) (fun h3 => ?_))
      · rw [if_pos h3]
        refine db_cons (ds_retD (de_tup (da_cons (de_catT (xs := log.map enc) (ys := [enc (W.reserved, dl)]) (de_var (i := 1) rfl) (de_tup (da_cons (de_tup (da_cons (de_gW T.c_RESERVED) (da_cons (de_var (i := 4) rfl) da_nil))) da_nil)) hcat) (da_cons (de_gW T.c_RESERVED) da_nil))) ?_)
        rw [enc_snoc]
      · rw [if_neg (by rw [h3]; exact Bool.false_ne_true)]
        refine db_nil ?_
        exact db_cons (ds_retD (de_tup (da_cons (de_var (i := 1) rfl) (da_cons (de_W .full) da_nil))) rfl)
  rw [decide_eq_false_iff_not] at h
  rw [if_neg h]
  refine db_nil ?_
  refine db_cons (ds_if (dt_w (dw_and (dt_eq hr (x := wo) (y := W.send) (de_var (i := 3) rfl) (de_W .send)) fun _ => (dw_and1 (dt_in hr (x := standOf log dl) (ys := [W.reserved, .sent, .back]) (de_var (i := 5) rfl) (de_tup (da_cons (de_gW T.c_RESERVED) (da_cons (de_gW T.c_SENT) (da_cons (de_gW T.c_BACK) da_nil)))) (.tup _))))) (fun h => ?_) (fun h => ?_))
  · rw [Bool.and_eq_true, decide_eq_true_eq, decide_eq_true_eq] at h
    rw [if_pos h]
    refine db_cons (ds_retD (de_tup (da_cons (de_ite (dt_eq hr (x := standOf log dl) (y := W.reserved) (de_var (i := 5) rfl) (de_gW T.c_RESERVED)) (fun _ => (de_catT (xs := log.map enc) (ys := [enc (W.sent, dl)]) (de_var (i := 1) rfl) (de_tup (da_cons (de_tup (da_cons (de_gW T.c_SENT) (da_cons (de_var (i := 4) rfl) da_nil))) da_nil)) hcat)) (fun _ => (de_var (i := 1) rfl))) (da_cons (de_gW T.c_SENT) da_nil))) ?_)
    rw [em_ite2 (enc_snoc _ _) rfl]
  rw [Bool.and_eq_false_iff, decide_eq_false_iff_not, decide_eq_false_iff_not] at h
  rw [if_neg (fun z => h.elim (fun q => q z.1) fun q => q z.2)]
  refine db_nil ?_
  refine db_cons (ds_if (dt_w (dw_and (dt_eq hr (x := wo) (y := W.release) (de_var (i := 3) rfl) (de_W .release)) fun _ => (dw_and1 (dt_in hr (x := standOf log dl) (ys := [W.em, .reserved, .released]) (de_var (i := 5) rfl) (de_tup (da_cons (de_W .em) (da_cons (de_gW T.c_RESERVED) (da_cons (de_gW T.c_RELEASED) da_nil)))) (.tup _))))) (fun h => ?_) (fun h => ?_))
  · rw [Bool.and_eq_true, decide_eq_true_eq, decide_eq_true_eq] at h
    rw [if_pos h]
    refine db_cons (ds_retD (de_tup (da_cons (de_ite (dt_eq hr (x := standOf log dl) (y := W.released) (de_var (i := 5) rfl) (de_gW T.c_RELEASED)) (fun _ => (de_var (i := 1) rfl)) (fun _ => (de_catT (xs := log.map enc) (ys := [enc (W.released, dl)]) (de_var (i := 1) rfl) (de_tup (da_cons (de_tup (da_cons (de_gW T.c_RELEASED) (da_cons (de_var (i := 4) rfl) da_nil))) da_nil)) hcat))) (da_cons (de_gW T.c_RELEASED) da_nil))) ?_)
    rw [em_ite2 rfl (enc_snoc _ _)]
  rw [Bool.and_eq_false_iff, decide_eq_false_iff_not, decide_eq_false_iff_not] at h
  rw [if_neg (fun z => h.elim (fun q => q z.1) fun q => q z.2)]
  refine db_nil ?_
  refine db_cons (ds_if (dt_w (dw_and (dt_eq hr (x := wo) (y := W.restock) (de_var (i := 3) rfl) (de_W .restock)) fun _ => (dw_and1 (dt_in hr (x := standOf log dl) (ys := [W.sent, .back]) (de_var (i := 5) rfl) (de_tup (da_cons (de_gW T.c_SENT) (da_cons (de_gW T.c_BACK) da_nil))) (.tup _))))) (fun h => ?_) (fun h => ?_))
  · rw [Bool.and_eq_true, decide_eq_true_eq, decide_eq_true_eq] at h
    rw [if_pos h]
    refine db_cons (ds_retD (de_tup (da_cons (de_ite (dt_eq hr (x := standOf log dl) (y := W.sent) (de_var (i := 5) rfl) (de_gW T.c_SENT)) (fun _ => (de_catT (xs := log.map enc) (ys := [enc (W.back, dl)]) (de_var (i := 1) rfl) (de_tup (da_cons (de_tup (da_cons (de_gW T.c_BACK) (da_cons (de_var (i := 4) rfl) da_nil))) da_nil)) hcat)) (fun _ => (de_var (i := 1) rfl))) (da_cons (de_W .restocked) da_nil))) ?_)
    rw [em_ite2 (enc_snoc _ _) rfl]
  rw [Bool.and_eq_false_iff, decide_eq_false_iff_not, decide_eq_false_iff_not] at h
  rw [if_neg (fun z => h.elim (fun q => q z.1) fun q => q z.2)]
  refine db_nil ?_
  exact db_cons (ds_retD (de_tup (da_cons (de_var (i := 1) rfl) (da_cons de_non da_nil))) rfl)
end
section
variable {X : Cx} {J : Jn} {env : List SL} {a b c d e f : Expr} {pos p : Pos}
theorem c_house_step (T : Txt X.K X.mg) (hr : Room 5 X.A) {x : Setup} {y : Log} {z : W} {u : W} {v : W} (ha : DE X J env a (enc x)) (hb : DE X J env b (enc y)) (hc : DE X J env c (enc z)) (hd : DE X J env d (enc u)) (he : DE X J env e (enc v)) (h1 : SW x) (h2 : v ∈ x.2.1.map (·.1)) (h3 : y.length ≤ 1000) (hg : Gl X "house_step" := by rfl) (s0 : starEach [a, b, c, d, e] X.env = (false, eval a X.env) :: starEach [b, c, d, e] X.env := by rfl) (s1 : starEach [b, c, d, e] X.env = (false, eval b X.env) :: starEach [c, d, e] X.env := by rfl) (s2 : starEach [c, d, e] X.env = (false, eval c X.env) :: starEach [d, e] X.env := by rfl) (s3 : starEach [d, e] X.env = (false, eval d X.env) :: starEach [e] X.env := by rfl) (s4 : starEach [e] X.env = (false, eval e X.env) :: starEach [] X.env := by rfl) (hpl : (backTo pos (starEach [b, c, d, e] X.env)).any (·.1) = false := by rfl) :
    DE X J env (.Call (.Name "house_step" p) [a, b, c, d, e] [] pos) (.tup [enc (houseStep x y z u v).1, encO (houseStep x y z u v).2]) := cal_de (cal_house_step T) hr (x, y, z, u, v) (da_cons ha (da_cons hb (da_cons hc (da_cons hd (da_cons he da_nil s4) s3) s2) s1) s0) ⟨h1, h2, h3⟩ hg s0 hpl
end
end Sh
/-! A5: coins_of, has_coins, bank_step. -/
namespace Sh
open PySem PySem.Spec PyProof.Rows L2
open En (enc)
def cG (log : Log) (ds : List Deal) (c : W → W → Int) : W → W → Int := ds.foldl (fun c d => if standOf log d.1 ∈ [W.held, .taken] then bump c d.2.1 (standOf log d.1) d.2.2.2 else c) c
def row3 (n : Int) (c : W → Int) : List Int := [n - c .held - c .taken, c .held, c .taken]
def kv3 (S : Setup) (c : W → W → Int) : List (W × List Int) := S.2.2.map fun s => (s.1, row3 s.2 (c s.1))
def coins (S : Setup) (log : Log) : List (W × List Int) := kv3 S (cG log S.2.1 fun _ _ => 0)
theorem cG_snoc (log : Log) (ds : List Deal) (d : Deal) (c : W → W → Int) : cG log (ds ++ [d]) c = if standOf log d.1 ∈ [W.held, .taken] then bump (cG log ds c) d.2.1 (standOf log d.1) d.2.2.2 else cG log ds c := by
  unfold cG; rw [List.foldl_append]; rfl
theorem kv3_keys (S : Setup) (c : W → W → Int) : (kv3 S c).map (·.1) = S.2.2.map (·.1) := by
  unfold kv3; rw [List.map_map]; rfl
theorem kv3_look {S : Setup} (wf : SW S) (c : W → W → Int) {s : Buy} (hs : s ∈ S.2.2) : lookW (kv3 S c) s.1 = some (row3 s.2 (c s.1)) :=
  lookW_of_mem (by rw [kv3_keys]; exact wf.bn) (List.mem_map.mpr ⟨s, hs, rfl⟩)
theorem nodup_fst {α : Type} : ∀ {l : List (W × α)} {a s : W × α}, (l.map (·.1)).Nodup → a ∈ l → s ∈ l → a.1 = s.1 → a = s
  | [], _, _, _, h, _, _ => by cases h
  | z :: r, a, s, nd, h1, h2, q => by
    rw [List.map_cons, List.nodup_cons] at nd
    rcases List.mem_cons.mp h1 with y1 | y1
    · rcases List.mem_cons.mp h2 with y2 | y2
      · rw [y1, y2]
      · exact absurd (List.mem_map.mpr ⟨s, y2, by rw [← q, y1]⟩) nd.1
    · rcases List.mem_cons.mp h2 with y2 | y2
      · exact absurd (List.mem_map.mpr ⟨a, y1, by rw [q, y2]⟩) nd.1
      · exact nodup_fst nd.2 y1 y2 q
theorem kv3_put {S : Setup} (wf : SW S) (c : W → W → Int) {s : Buy} (hs : s ∈ S.2.2) (c' : W → W → Int) (off : ∀ y, y ≠ s.1 → c' y = c y) : putW (kv3 S c) s.1 (row3 s.2 (c' s.1)) = kv3 S c' := by
  unfold putW
  have m : s.1 ∈ (kv3 S c).map (·.1) := by
    rw [kv3_keys]
    exact List.mem_map.mpr ⟨s, hs, rfl⟩
  obtain ⟨p, hp, ep⟩ := List.mem_map.mp m
  rw [if_pos (List.any_eq_true.mpr ⟨p, hp, decide_eq_true ep⟩)]
  unfold kv3
  rw [List.map_map]
  apply List.map_congr_left
  intro a ha
  show (if a.1 = s.1 then (a.1, row3 s.2 (c' s.1)) else (a.1, row3 a.2 (c a.1))) = (a.1, row3 a.2 (c' a.1))
  by_cases q : a.1 = s.1
  · have ea : a = s := nodup_fst wf.bn ha hs q
    rw [if_pos q, ea]
  · rw [if_neg q, off _ q]
def placeB (w : W) : Nat := if w = .held then 1 else 2
theorem row3_bump {n : Int} {c : W → W → Int} {x w : W} {k : Int} (hw : w = .held ∨ w = .taken) :
    (((row3 n (c x)).map D.int).set 0 (.int (n - c x .held - c x .taken - k))).set (placeB w) (.int (c x w + k)) = (row3 n (bump c x w k x)).map D.int := by
  rcases hw with e | e <;> subst e <;> simp [row3, bump, placeB] <;> omega
theorem buy_put {S : Setup} (wf : SW S) (c : W → W → Int) {s : Buy} (hs : s ∈ S.2.2) {w : W} (hw : w = .held ∨ w = .taken) (k : Int) :
    putW (encC (kv3 S c)) s.1 (((((row3 s.2 (c s.1)).map D.int).set 0 (.int (s.2 - c s.1 .held - c s.1 .taken - k))).set (placeB w) (.int (c s.1 w + k)))) = encC (kv3 S (bump c s.1 w k)) := by
  rw [row3_bump hw, encC_put, kv3_put wf c hs _ fun y hy => bump_off hy]
theorem row3_place {n : Int} {c : W → Int} {w : W} (hw : w = .held ∨ w = .taken) (z : D) : (((row3 n c).map D.int).set 0 z)[placeB w]? = some (.int (c w)) := by
  rcases hw with e | e <;> subst e <;> rfl
def hasCoins (S : Setup) (log : Log) (d : W) : Bool := decide ((dealOf S d).2.2.2 ≤ (((lookW (coins S log) (dealOf S d).2.1).getD [])[0]?).getD 0)
def bankStep (S : Setup) (log : Log) (w d : W) : Log × Option W :=
  if w = .hold then
    (if ¬ standOf log d = .em then (log, some (if standOf log d = .freed then .freed else .held))
    else if hasCoins S log d = true then (log ++ [(.held, d)], some .held) else (log, some .poor))
  else if w = .take ∧ standOf log d ∈ [W.held, .taken, .refunded] then (if standOf log d = .held then log ++ [(.taken, d)] else log, some .taken)
  else if w = .free ∧ standOf log d ∈ [W.em, .held, .freed] then (if standOf log d = .freed then log else log ++ [(.freed, d)], some .freed)
  else if w = .refund ∧ standOf log d ∈ [W.taken, .refunded] then (if standOf log d = .taken then log ++ [(.refunded, d)] else log, some .refunded)
  else (log, none)
section
variable {P : Program} {w : World} {K : PySem.W.Frag} {mg : Str → Option Value} {base : Heap}
theorem sc_coins_of : FnScope ["setup", "log", "buyer", "found", "name", "parts", "cents", "stand"] ["setup", "log"] (defScope (top 17)) := ⟨rfl, rfl, rfl, by decide +kernel, rfl, by decide +kernel, by decide +kernel⟩
theorem cal_coins_of (T : Txt K mg) : Cal P w K mg base "coins_of" 2 ["setup", "log"] (spT K J0 (fun a : Setup × Log => [enc a.1, enc a.2]) (fun a => SW a.1) (fun a d => d = encCD (coins a.1 a.2))) := by
  refine cal_of T.d_coins_of fun f fd F => fn_ok F sc_coins_of (fun _ => rfl) fun cdv A outer s H E a hr pre => ?_
  obtain ⟨S, log⟩ := a
  have wf : SW S := pre
  have l3 : S.2.2.length ≤ 2 := wf.l3
  refine db_cons (ds_setDl (i := 3) (xs := S.2.2) (f := enc) (p := fun _ => true) (kw := fun s => s.1) (g := fun s => [enc s.2, .int 0, .int 0]) (t := .nm 2) (own := [("buyer", 2)]) (di_tup (de_ixn 2 (de_var (i := 0) rfl) rfl)) sc_coins_of.nd (blkOk_by (N := ["setup", "log", "buyer", "found", "name", "parts", "cents", "stand"]) (sc := defScope (top 17)) (by decide +kernel)) (by decide) (fun _ _ _ _ _ => (pg_name (i := 2) sc_coins_of.nd rfl (Or.inl rfl))) (fun _ => .nm _ _ _)
    (fun _ _ _ _ _ x hx => dts_nil) (fun _ _ _ _ _ x hx _ => de_ixn 0 (de_var (i := 2) rfl) rfl) (fun _ _ _ _ _ x hx _ => df_lst (da_cons (de_ixn 1 (de_var (i := 2) rfl) rfl) (da_cons de_int (da_cons de_int da_nil)))) (small (m := 2) l3) (by rw [List.filter_eq_self.mpr (fun _ _ => rfl)]; exact wf.bn) ?_)
  rw [List.filter_eq_self.mpr (fun _ _ => rfl)]
  have e0 : (S.2.2.map fun s => (s.1, [enc s.2, D.int 0, .int 0])) = encC (kv3 S (cG log (S.2.1.take 0) fun _ _ => 0)) := by
    unfold encC kv3
    rw [List.map_map]
    apply List.map_congr_left
    intro x _
    show (x.1, [D.int x.2, D.int 0, D.int 0]) = (x.1, [D.int (x.2 - 0 - 0), D.int 0, D.int 0])
    rw [Int.sub_zero, Int.sub_zero]
  rw [e0]
  refine db_cons (ds_for (xs := S.2.1) (f := enc) (t := .tp [4, 2, 5, 6]) (di_tup (de_ixn 1 (de_var (i := 0) rfl) rfl))
    (fun i env => ∃ x2 x4 x5 x6 x7, env = [.d (enc S), .d (enc log), x2, .own (.dl (wd (encC (kv3 S (cG log (S.2.1.take i) fun _ _ => 0))))), x4, x5, x6, x7]) ⟨_, _, _, _, _, rfl⟩ ?_ ?_ ?_ PassesOwn.never)
  · rintro i d _ hd ⟨x2, x4, x5, x6, x7, rfl⟩
    have hdm : d ∈ S.2.1 := List.mem_of_getElem? hd
    refine ⟨_, .tp _ _ _ rfl, ?_⟩
    rw [take_succ_of hd, cG_snoc]
    generalize cG log (S.2.1.take i) (fun _ _ => 0) = c
    refine db_cons (ds_setD (i := 7) (c_stand_of T (hr.mono (by decide)) (x := log) (y := d.1) (de_var (i := 1) rfl) (de_var (i := 4) rfl)) sc_coins_of.nd ?_)
    refine db_cons (ds_if (dt_in hr (x := standOf log d.1) (ys := [W.held, .taken]) (de_var (i := 7) rfl) (de_tup (da_cons (de_gW T.c_HELD) (da_cons (de_gW T.c_TAKEN) da_nil))) (.tup _)) (fun hm => ?_) (fun hm => ?_))
    · rw [decide_eq_true_eq] at hm
      rw [if_pos hm]
      have hw : standOf log d.1 = .held ∨ standOf log d.1 = .taken := by simpa using hm
      generalize standOf log d.1 = st at hw hm ⊢
      obtain ⟨s, hs, es⟩ := List.mem_map.mp (wf.db _ hdm)
      have hk : s.1 ∈ (encC (kv3 S c)).map (·.1) := by rw [encC_keys, kv3_keys]; exact List.mem_map.mpr ⟨s, hs, rfl⟩
      have hl : lookW (encC (kv3 S c)) d.2.1 = some ((row3 s.2 (c s.1)).map D.int) := by rw [encC_look, ← es, kv3_look wf c hs]; rfl
      have nk : ((encC (kv3 S c)).map (·.1)).Nodup := by rw [encC_keys, kv3_keys]; exact wf.bn
      have hk1 : d.2.1 ∈ (encC (kv3 S c)).map (·.1) := by rw [← es]; exact hk
      refine db_cons (ds_augDl (i := 3) (k := 1) (kvs := encC (kv3 S c)) (w := d.2.1) (xs := (row3 s.2 (c s.1)).map D.int) (n := 0) (m := s.2 - c s.1 .held - c s.1 .taken) (c := d.2.2.2) (hr.mono (by decide)) rfl (de_var (i := 2) rfl) de_int (de_var (i := 6) rfl) ip_sub nk hl rfl ?_)
      refine db_cons (ds_augDl (i := 3) (k := 1) (kvs := putW (encC (kv3 S c)) d.2.1 (((row3 s.2 (c s.1)).map D.int).set 0 (.int (s.2 - c s.1 .held - c s.1 .taken - d.2.2.2)))) (w := d.2.1) (xs := ((row3 s.2 (c s.1)).map D.int).set 0 (.int (s.2 - c s.1 .held - c s.1 .taken - d.2.2.2))) (n := placeB st) (m := c s.1 st) (c := d.2.2.2) (hr.mono (by decide)) rfl (de_var (i := 2) rfl)
        ((de_ite (dt_eq hr (x := st) (y := W.held) (de_var (i := 7) rfl) (de_gW T.c_HELD)) (fun _ => de_int) (fun _ => de_int)).cast ?_) (de_var (i := 6) rfl) ip_add (by rw [putW_keys hk1]; exact nk) (lookW_put hk1) (row3_place hw _) ?_)
      · rcases hw with e | e <;> subst e <;> rfl
      have e9 : putW (encC (kv3 S c)) d.2.1 (((((row3 s.2 (c s.1)).map D.int).set 0 (.int (s.2 - c s.1 .held - c s.1 .taken - d.2.2.2))).set (placeB st) (.int (c s.1 st + d.2.2.2)))) = encC (kv3 S (bump c d.2.1 st d.2.2.2)) := by rw [← es]; exact buy_put wf c hs hw _
      refine db_nil (db_nil ⟨.d (enc d.2.1), .d (enc d.1), .d (enc d.2.2.1), .d (enc d.2.2.2), .d (enc st), ?_⟩)
      rw [putW_putW hk1, e9]
      rfl
    · rw [decide_eq_false_iff_not] at hm
      rw [if_neg hm]
      exact db_nil (db_nil ⟨_, _, _, _, _, rfl⟩)
  · rintro _ ⟨x2, x4, x5, x6, x7, rfl⟩
    rw [List.take_length]
    refine db_cons (ds_retD (d := encCD (coins S log)) (de_var (i := 3) ?_) rfl)
    show some (frz (.own (.dl (wd (encC _))))) = _
    rw [encCD_eq]
    rfl
  · exact (pg_tup rfl (pgs_cons (pg_name (i := 4) sc_coins_of.nd rfl (Or.inl rfl)) (pgs_cons (pg_name (i := 2) sc_coins_of.nd rfl (Or.inl rfl)) (pgs_cons (pg_name (i := 5) sc_coins_of.nd rfl (Or.inl rfl)) (pgs_cons (pg_name (i := 6) sc_coins_of.nd rfl (Or.inl rfl)) pgs_nil)))))
end
section
variable {X : Cx} {J : Jn} {env : List SL} {a b c d e f : Expr} {pos p : Pos}
theorem c_coins_of (T : Txt X.K X.mg) (hr : Room 2 X.A) {x : Setup} {y : Log} (ha : DE X J env a (enc x)) (hb : DE X J env b (enc y)) (h1 : SW x) (hg : Gl X "coins_of" := by rfl) (s0 : starEach [a, b] X.env = (false, eval a X.env) :: starEach [b] X.env := by rfl) (s1 : starEach [b] X.env = (false, eval b X.env) :: starEach [] X.env := by rfl) (hpl : (backTo pos (starEach [b] X.env)).any (·.1) = false := by rfl) :
    DE X J env (.Call (.Name "coins_of" p) [a, b] [] pos) (encCD (coins x y)) := cal_de (cal_coins_of T) hr (x, y) (da_cons ha (da_cons hb da_nil s1) s0) h1 hg s0 hpl
end
section
variable {P : Program} {w : World} {K : PySem.W.Frag} {mg : Str → Option Value} {base : Heap}
theorem coins_look {S : Setup} (wf : SW S) (log : Log) {b : W} (hb : b ∈ S.2.2.map (·.1)) : ∃ n r, lookW (coins S log) b = some (n :: r) := by
  obtain ⟨s, hs, es⟩ := List.mem_map.mp hb
  exact ⟨_, _, by rw [← es]; exact kv3_look wf _ hs⟩
theorem sc_has_coins : FnScope ["setup", "log", "deal", "buyer", "cents"] ["setup", "log", "deal"] (defScope (top 18)) := ⟨rfl, rfl, rfl, by decide +kernel, rfl, by decide +kernel, by decide +kernel⟩
theorem cal_has_coins (T : Txt K mg) : Cal P w K mg base "has_coins" 3 ["setup", "log", "deal"] (spT K J0 (fun a : Setup × Log × W => [enc a.1, enc a.2.1, enc a.2.2]) (fun a => SW a.1 ∧ a.2.2 ∈ a.1.2.1.map (·.1)) (fun a d => d = .bl (hasCoins a.1 a.2.1 a.2.2))) := by
  refine cal_of T.d_has_coins fun f fd F => fn_ok F sc_has_coins (fun _ => rfl) fun cdv A outer s H E a hr pre => ?_
  obtain ⟨S, log, d⟩ := a
  obtain ⟨wf, hd⟩ := pre
  have hd' : d ∈ S.2.1.map (·.1) := hd
  have l2 : S.2.1.length ≤ 3 := wf.l2
  obtain ⟨n, r, e⟩ := coins_look wf log (wf.db _ (deal_mem hd').1)
  have e2 : lookW ((coins S log).map fun p => (p.1, D.lst (p.2.map D.int))) (dealOf S d).2.1 = some (.lst ((n :: r).map D.int)) := by
    rw [lookW_map (f := fun r : List Int => D.lst (r.map D.int)), e]; rfl
  have z : (((lookW (coins S log) (dealOf S d).2.1).getD [])[0]?).getD 0 = n := by rw [e]; rfl
  refine db_cons (ds_par (i := 3) (j := 4) (P := fun y => y = [.d (enc (dealOf S d).2.1), .d (enc (dealOf S d).2.2.2)]) (das_cons (se_d (de_ixn 1 (c_deal_of T (hr.mono (by decide)) (x := S) (y := d) (de_var (i := 0) rfl) (de_var (i := 2) rfl) hd' (by omega)) rfl)) (das_cons (se_d (de_ixn 3 (c_deal_of T (hr.mono (by decide)) (x := S) (y := d) (de_var (i := 0) rfl) (de_var (i := 2) rfl) hd' (by omega)) rfl)) as_nil)) sc_has_coins.nd (fun xs h => ⟨_, _, h, ?_⟩))
  refine db_cons (ds_retD (de_ge (i := n) (j := (dealOf S d).2.2.2) (de_ixnL 0 (de_dget hr (w := (dealOf S d).2.1) (c_coins_of T (hr.mono (by decide)) (x := S) (y := log) (de_var (i := 0) rfl) (de_var (i := 1) rfl) wf) (de_var (i := 3) rfl) e2) rfl) (de_var (i := 4) rfl)) ?_)
  show D.bl _ = D.bl (hasCoins S log d)
  unfold hasCoins
  rw [z]
end
section
variable {X : Cx} {J : Jn} {env : List SL} {a b c d e f : Expr} {pos p : Pos}
theorem c_has_coins (T : Txt X.K X.mg) (hr : Room 3 X.A) {x : Setup} {y : Log} {z : W} (ha : DE X J env a (enc x)) (hb : DE X J env b (enc y)) (hc : DE X J env c (enc z)) (h1 : SW x) (h2 : z ∈ x.2.1.map (·.1)) (hg : Gl X "has_coins" := by rfl) (s0 : starEach [a, b, c] X.env = (false, eval a X.env) :: starEach [b, c] X.env := by rfl) (s1 : starEach [b, c] X.env = (false, eval b X.env) :: starEach [c] X.env := by rfl) (s2 : starEach [c] X.env = (false, eval c X.env) :: starEach [] X.env := by rfl) (hpl : (backTo pos (starEach [b, c] X.env)).any (·.1) = false := by rfl) :
    DE X J env (.Call (.Name "has_coins" p) [a, b, c] [] pos) (.bl (hasCoins x y z)) := cal_de (cal_has_coins T) hr (x, y, z) (da_cons ha (da_cons hb (da_cons hc da_nil s2) s1) s0) ⟨h1, h2⟩ hg s0 hpl
end
section
variable {P : Program} {w : World} {K : PySem.W.Frag} {mg : Str → Option Value} {base : Heap}
theorem sc_bank_step : FnScope ["setup", "log", "word", "deal", "stand"] ["setup", "log", "word", "deal"] (defScope (top 19)) := ⟨rfl, rfl, rfl, by decide +kernel, rfl, by decide +kernel, by decide +kernel⟩
theorem cal_bank_step (T : Txt K mg) : Cal P w K mg base "bank_step" 4 ["setup", "log", "word", "deal"] (spT K J0 (fun a : Setup × Log × W × W => [enc a.1, enc a.2.1, enc a.2.2.1, enc a.2.2.2]) (fun a => SW a.1 ∧ a.2.2.2 ∈ a.1.2.1.map (·.1) ∧ a.2.1.length ≤ 1000)
    (fun a d => d = .tup [enc (bankStep a.1 a.2.1 a.2.2.1 a.2.2.2).1, encO (bankStep a.1 a.2.1 a.2.2.1 a.2.2.2).2])) := by
  refine cal_of T.d_bank_step fun f fd F => fn_ok F sc_bank_step (fun _ => rfl) fun cdv A outer s H E a hr pre => ?_
  obtain ⟨S, log, wo, dl⟩ := a
  obtain ⟨wf, hd, hz⟩ := pre
  have hd' : dl ∈ S.2.1.map (·.1) := hd
  have hz' : log.length ≤ 1000 := hz
  have hcat : (log.map enc).length + [enc (W.held, dl)].length ≤ sizeLine := by rw [List.length_map]; exact Nat.le_of_lt (small (m := 1001) (by show log.length + 1 ≤ 1001; omega))
  show DB _ _ _ _ _ fun d => d = .tup [enc (bankStep S log wo dl).1, encO (bankStep S log wo dl).2]
  unfold bankStep
  refine db_cons (ds_setD (i := 4) (c_stand_of T (hr.mono (by decide)) (x := log) (y := dl) (de_var (i := 1) rfl) (de_var (i := 3) rfl)) sc_bank_step.nd ?_)
  refine db_cons (ds_if (dt_eq hr (x := wo) (y := W.hold) (de_var (i := 2) rfl) (de_W .hold)) (fun h => ?_) (fun h => ?_))
  · rw [decide_eq_true_eq] at h
    rw [if_pos h]
    refine db_cons (ds_if (dt_ne hr (x := standOf log dl) (y := W.em) (de_var (i := 4) rfl) (de_W .em)) (fun h2 => ?_) (fun h2 => ?_))
    · rw [Bool.not_eq_true', decide_eq_false_iff_not] at h2
      rw [if_pos h2]
      refine db_cons (ds_retD (de_tup (da_cons (de_var (i := 1) rfl) (da_cons (de_ite (dt_eq hr (x := standOf log dl) (y := W.freed) (de_var (i := 4) rfl) (de_gW T.c_FREED)) (fun _ => (de_gW T.c_FREED)) (fun _ => (de_gW T.c_HELD))) da_nil))) ?_)
      rw [em_ite]
    · rw [Bool.not_eq_false', decide_eq_true_eq] at h2
      rw [if_neg (fun z => z h2)]
      refine db_nil ?_
      refine db_cons (ds_if (dt_val (c_has_coins T (hr.mono (by decide)) (x := S) (y := log) (z := dl) (de_var (i := 0) rfl) (de_var (i := 1) rfl) (de_var (i := 3) rfl) wf hd')) (fun h3 => ?_) (fun h3 => ?_))
      · rw [if_pos h3]
        refine db_cons (ds_retD (de_tup (da_cons (de_catT (xs := log.map enc) (ys := [enc (W.held, dl)]) (de_var (i := 1) rfl) (de_tup (da_cons (de_tup (da_cons (de_gW T.c_HELD) (da_cons (de_var (i := 3) rfl) da_nil))) da_nil)) hcat) (da_cons (de_gW T.c_HELD) da_nil))) ?_)
        rw [enc_snoc]
      · rw [if_neg (by rw [h3]; exact Bool.false_ne_true)]
        refine db_nil ?_
        exact db_cons (ds_retD (de_tup (da_cons (de_var (i := 1) rfl) (da_cons (de_W .poor) da_nil))) rfl)
  rw [decide_eq_false_iff_not] at h
  rw [if_neg h]
  refine db_nil ?_
  refine db_cons (ds_if (dt_w (dw_and (dt_eq hr (x := wo) (y := W.take) (de_var (i := 2) rfl) (de_W .take)) fun _ => (dw_and1 (dt_in hr (x := standOf log dl) (ys := [W.held, .taken, .refunded]) (de_var (i := 4) rfl) (de_tup (da_cons (de_gW T.c_HELD) (da_cons (de_gW T.c_TAKEN) (da_cons (de_gW T.c_REFUNDED) da_nil)))) (.tup _))))) (fun h => ?_) (fun h => ?_))
  · rw [Bool.and_eq_true, decide_eq_true_eq, decide_eq_true_eq] at h
    rw [if_pos h]
    refine db_cons (ds_retD (de_tup (da_cons (de_ite (dt_eq hr (x := standOf log dl) (y := W.held) (de_var (i := 4) rfl) (de_gW T.c_HELD)) (fun _ => (de_catT (xs := log.map enc) (ys := [enc (W.taken, dl)]) (de_var (i := 1) rfl) (de_tup (da_cons (de_tup (da_cons (de_gW T.c_TAKEN) (da_cons (de_var (i := 3) rfl) da_nil))) da_nil)) hcat)) (fun _ => (de_var (i := 1) rfl))) (da_cons (de_gW T.c_TAKEN) da_nil))) ?_)
    rw [em_ite2 (enc_snoc _ _) rfl]
  rw [Bool.and_eq_false_iff, decide_eq_false_iff_not, decide_eq_false_iff_not] at h
  rw [if_neg (fun z => h.elim (fun q => q z.1) fun q => q z.2)]
  refine db_nil ?_
  refine db_cons (ds_if (dt_w (dw_and (dt_eq hr (x := wo) (y := W.free) (de_var (i := 2) rfl) (de_W .free)) fun _ => (dw_and1 (dt_in hr (x := standOf log dl) (ys := [W.em, .held, .freed]) (de_var (i := 4) rfl) (de_tup (da_cons (de_W .em) (da_cons (de_gW T.c_HELD) (da_cons (de_gW T.c_FREED) da_nil)))) (.tup _))))) (fun h => ?_) (fun h => ?_))
  · rw [Bool.and_eq_true, decide_eq_true_eq, decide_eq_true_eq] at h
    rw [if_pos h]
    refine db_cons (ds_retD (de_tup (da_cons (de_ite (dt_eq hr (x := standOf log dl) (y := W.freed) (de_var (i := 4) rfl) (de_gW T.c_FREED)) (fun _ => (de_var (i := 1) rfl)) (fun _ => (de_catT (xs := log.map enc) (ys := [enc (W.freed, dl)]) (de_var (i := 1) rfl) (de_tup (da_cons (de_tup (da_cons (de_gW T.c_FREED) (da_cons (de_var (i := 3) rfl) da_nil))) da_nil)) hcat))) (da_cons (de_gW T.c_FREED) da_nil))) ?_)
    rw [em_ite2 rfl (enc_snoc _ _)]
  rw [Bool.and_eq_false_iff, decide_eq_false_iff_not, decide_eq_false_iff_not] at h
  rw [if_neg (fun z => h.elim (fun q => q z.1) fun q => q z.2)]
  refine db_nil ?_
  refine db_cons (ds_if (dt_w (dw_and (dt_eq hr (x := wo) (y := W.refund) (de_var (i := 2) rfl) (de_W .refund)) fun _ => (dw_and1 (dt_in hr (x := standOf log dl) (ys := [W.taken, .refunded]) (de_var (i := 4) rfl) (de_tup (da_cons (de_gW T.c_TAKEN) (da_cons (de_gW T.c_REFUNDED) da_nil))) (.tup _))))) (fun h => ?_) (fun h => ?_))
  · rw [Bool.and_eq_true, decide_eq_true_eq, decide_eq_true_eq] at h
    rw [if_pos h]
    refine db_cons (ds_retD (de_tup (da_cons (de_ite (dt_eq hr (x := standOf log dl) (y := W.taken) (de_var (i := 4) rfl) (de_gW T.c_TAKEN)) (fun _ => (de_catT (xs := log.map enc) (ys := [enc (W.refunded, dl)]) (de_var (i := 1) rfl) (de_tup (da_cons (de_tup (da_cons (de_gW T.c_REFUNDED) (da_cons (de_var (i := 3) rfl) da_nil))) da_nil)) hcat)) (fun _ => (de_var (i := 1) rfl))) (da_cons (de_gW T.c_REFUNDED) da_nil))) ?_)
    rw [em_ite2 (enc_snoc _ _) rfl]
  rw [Bool.and_eq_false_iff, decide_eq_false_iff_not, decide_eq_false_iff_not] at h
  rw [if_neg (fun z => h.elim (fun q => q z.1) fun q => q z.2)]
  refine db_nil ?_
  exact db_cons (ds_retD (de_tup (da_cons (de_var (i := 1) rfl) (da_cons de_non da_nil))) rfl)
end
section
variable {X : Cx} {J : Jn} {env : List SL} {a b c d e f : Expr} {pos p : Pos}
theorem c_bank_step (T : Txt X.K X.mg) (hr : Room 4 X.A) {x : Setup} {y : Log} {u : W} {v : W} (ha : DE X J env a (enc x)) (hb : DE X J env b (enc y)) (hc : DE X J env c (enc u)) (hd : DE X J env d (enc v)) (h1 : SW x) (h2 : v ∈ x.2.1.map (·.1)) (h3 : y.length ≤ 1000) (hg : Gl X "bank_step" := by rfl) (s0 : starEach [a, b, c, d] X.env = (false, eval a X.env) :: starEach [b, c, d] X.env := by rfl) (s1 : starEach [b, c, d] X.env = (false, eval b X.env) :: starEach [c, d] X.env := by rfl) (s2 : starEach [c, d] X.env = (false, eval c X.env) :: starEach [d] X.env := by rfl) (s3 : starEach [d] X.env = (false, eval d X.env) :: starEach [] X.env := by rfl) (hpl : (backTo pos (starEach [b, c, d] X.env)).any (·.1) = false := by rfl) :
    DE X J env (.Call (.Name "bank_step" p) [a, b, c, d] [] pos) (.tup [enc (bankStep x y u v).1, encO (bankStep x y u v).2]) := cal_de (cal_bank_step T) hr (x, y, u, v) (da_cons ha (da_cons hb (da_cons hc (da_cons hd da_nil s3) s2) s1) s0) ⟨h1, h2, h3⟩ hg s0 hpl
end
end Sh
/-! Sh12: dicts of the top by words, starred items. -/
namespace Sh
open PySem PySem.Spec PyProof.Rows L2
open En (enc)
/-- a written dict of the top, by words -/
structure Kdx (K : PySem.W.Frag) (w : World) (mg : Str → Option Value) (x : Str) (g : W → Option D) : Prop where
  ex : ∃ d es n, mg x = some (.ref d) ∧ KDict K w d es n ∧ ∀ z : W, (g z = none → PySem.W.nsIn K d z.s = some none) ∧ ∀ e, g z = some e → ∃ u v, PySem.W.nsIn K d z.s = some (some u) ∧ RelV v u ∧ ∀ G, Is K G v e
section
variable {X : Cx} {J : Jn} {env : List SL} {a b e : Expr} {es : List Expr} {pos p : Pos} {k : Nat} {d x y : D} {n : Str} {g : W → Option D} {z : W}
theorem dt_inK (T : Kdx X.K X.w X.mg n g) (ha : DE X J env a (enc z)) (hg : Gl X n := by rfl) (hd : (n == ("__debug__" : Str)) = false := by decide) : DT X J env (.Compare a [.In] [.Name n p] pos) (g z).isSome := by
  obtain ⟨d, es, m, hm, D, h⟩ := T.ex
  refine dt_cmp (y := .raw (.ref d)) (op_in_kd D) (fun v u d' e' G H Q b r1 r2 p1 p2 q => ?_) ha (de_gref hm (fun G => .raw _) hg hd) rfl
  subst p1 p2
  refine ⟨z.s, _, r1.str_inv, r2.raw_inv, (?_ : PySem.W.nsIn X.K d z.s = some (match g z with | some _ => PySem.W.nsIn X.K d z.s |>.getD none | none => none)), ?_⟩
  · cases e : g z with
    | none => exact (h z).1 e
    | some e2 =>
      obtain ⟨u2, v2, h1, _⟩ := (h z).2 e2 e
      rw [h1]; rfl
  · refine q _ _ G H (Up.refl b) (.bl _) ?_
    cases e : g z with
    | none => rfl
    | some e2 =>
      obtain ⟨u2, v2, h1, _⟩ := (h z).2 e2 e
      simp only [h1]; rfl
theorem dt_ninK (T : Kdx X.K X.w X.mg n g) (ha : DE X J env a (enc z)) (hg : Gl X n := by rfl) (hd : (n == ("__debug__" : Str)) = false := by decide) : DT X J env (.Compare a [.NotIn] [.Name n p] pos) (!(g z).isSome) := by
  obtain ⟨d, es, m, hm, D, h⟩ := T.ex
  refine dt_cmp (y := .raw (.ref d)) (op_notIn_kd D) (fun v u d' e' G H Q b r1 r2 p1 p2 q => ?_) ha (de_gref hm (fun G => .raw _) hg hd) rfl
  subst p1 p2
  refine ⟨z.s, _, r1.str_inv, r2.raw_inv, (?_ : PySem.W.nsIn X.K d z.s = some (match g z with | some _ => PySem.W.nsIn X.K d z.s |>.getD none | none => none)), ?_⟩
  · cases e : g z with
    | none => exact (h z).1 e
    | some e2 =>
      obtain ⟨u2, v2, h1, _⟩ := (h z).2 e2 e
      rw [h1]; rfl
  · refine q _ _ G H (Up.refl b) (.bl _) ?_
    cases e : g z with
    | none => rfl
    | some e2 =>
      obtain ⟨u2, v2, h1, _⟩ := (h z).2 e2 e
      simp only [h1]; rfl
theorem de_getK (T : Kdx X.K X.w X.mg n g) (hb : DE X J env b (enc z)) (h : g z = some d) (hs : PlainIx b := by exact fun _ _ => rfl) (hg : Gl X n := by rfl) (hd : (n == ("__debug__" : Str)) = false := by decide) : DE X J env (.Subscript (.Name n p) b pos) d := by
  obtain ⟨q, es, m, hm, D, hz⟩ := T.ex
  obtain ⟨u2, v2, h1, h2, h3⟩ := (hz z).2 d h
  refine ep_ix (P := (· = .raw (.ref q))) (P1 := (· = enc z)) ix_kdict (fun v u d' e' G H Q b r1 r2 p1 p2 k => ?_) (de_gref hm (fun G => .raw _) hg hd) hb hs
  subst p1 p2
  exact ⟨q, z.s, v2, r1.raw_inv, r2.str_inv, ⟨es, m, u2, D.at_, D.lit, h1, h2⟩, k v2 d G H (Up.refl b) (h3 G) rfl⟩
/-- *e in a display -/
theorem ap_star {P : D → Prop} {Pt P2 : List D → Prop} (ha : EP' X J env e P) (hr : AP' X J env es Pt) (k : ∀ d ds, P d → Pt ds → ∃ xs, Sq d xs ∧ P2 (xs ++ ds)) (h0 : ∀ d, P d → ∃ xs, Sq d xs) (hs : starEach (.Starred e p :: es) X.env = (true, eval e X.env) :: starEach es X.env := by rfl) : AP' X J env (.Starred e p :: es) P2 := fun G0 H0 σ H G Q s q =>
  wpA_of (StX.pa_star pe_wp pa_wp hs) (ha G0 H0 σ H G _ s fun v d G1 H1 u1 r1 p1 => by
    obtain ⟨xs, hq⟩ := h0 d p1
    obtain ⟨a, vs, rfl, hs2, al⟩ := hq.isAll r1
    refine ⟨a, vs, rfl, ?_, hr G0 H0 σ H1 G1 _ (s.ext u1) fun ws ds G2 H2 u2 r2 p2 => ?_⟩
    · rcases sq_same u1.gh hs2 with z | z
      · exact Or.inr z
      · exact Or.inl z
    · obtain ⟨xs', hq', p3⟩ := k d ds p1 p2
      have e1 : xs' = xs := by
        cases hq <;> cases hq' <;> rfl
      subst e1
      exact q (vs ++ ws) (xs' ++ ds) G2 H2 (u1.trans u2) ((IsAll.mono u2.g al).append r2) p3)
theorem da_star {xs ds : List D} (ha : DE X J env e d) (hq : Sq d xs) (hr : DA X J env es ds) (hs : starEach (.Starred e p :: es) X.env = (true, eval e X.env) :: starEach es X.env := by rfl) : DA X J env (.Starred e p :: es) (xs ++ ds) :=
  ap_star ha hr (fun _ _ e1 e2 => ⟨xs, by rw [e1]; exact hq, by rw [e2]⟩) (fun _ e1 => ⟨xs, by rw [e1]; exact hq⟩) hs
end
end Sh
/-! A6: houses_of, partners, asks_of, all_good. -/
namespace Sh
open PySem PySem.Spec PyProof.Rows L2
open En (enc)
def hof (S : Setup) (d : W) (xs : List Sup) (acc : List W) : List W := xs.foldl (fun f s => if s.2.1 ∉ f ∧ partsAt S d s.2.1 ≠ [] then f ++ [s.2.1] else f) acc
def housesOf (S : Setup) (d : W) : List W := hof S d S.1 []
theorem hof_len (S : Setup) (d : W) (xs : List Sup) (acc : List W) : (hof S d xs acc).length ≤ acc.length + xs.length := by
  induction xs generalizing acc with
  | nil => exact Nat.le_refl _
  | cons p r ih =>
    show (hof S d r (if p.2.1 ∉ acc ∧ partsAt S d p.2.1 ≠ [] then acc ++ [p.2.1] else acc)).length ≤ _
    refine Nat.le_trans (ih _) ?_
    split <;> simp <;> omega
def partnersOf (S : Setup) (d : W) : List W := housesOf S d ++ [.bank]
def askW : W → Option (W × W)
  | .begun => some (.reserve, .hold)
  | .go => some (.send, .take)
  | .drop => some (.release, .free)
  | .ret => some (.restock, .refund)
  | _ => none
def goodW : W → Option (W × W)
  | .begun => some (.reserved, .held)
  | .go => some (.sent, .taken)
  | .drop => some (.released, .freed)
  | .ret => some (.restocked, .refunded)
  | _ => none
structure TxW (K : PySem.W.Frag) (mg : Str → Option Value) (w : World) : Prop where
  t : Txt K mg
  asks : Kdx K w mg "ASKS" fun z => (askW z).map enc
  goods : Kdx K w mg "GOODS" fun z => (goodW z).map enc
def pick (p : W × W) (who : W) : W := if who = .bank then p.2 else p.1
def plOf (who : W) : Int := if who = .bank then 1 else 0
theorem pick_at (p : W × W) (who : W) : atI [enc p.1, enc p.2] (plOf who) = some (enc (pick p who)) := by
  unfold pick plOf
  by_cases h : who = .bank
  · rw [if_pos h, if_pos h]; rfl
  · rw [if_neg h, if_neg h]; rfl
def asksF (a g : W × W) (heard : List Hrd) (d : W) (xs : List W) : List Hrd := (xs.filter fun who => decide ((d, who, pick g who) ∉ heard)).map fun who => (who, pick a who, d)
def asksOf (S : Setup) (log : Log) (heard : List Hrd) (d : W) : List Hrd := match askW (standOf log d), goodW (standOf log d) with
  | some a, some g => asksF a g heard d (partnersOf S d)
  | _, _ => []
theorem goodW_some {z : W} {a : W × W} (h : askW z = some a) : ∃ g, goodW z = some g := by
  cases z <;> first | exact ⟨_, rfl⟩ | cases h
theorem asksOf_none {S : Setup} {log : Log} {heard : List Hrd} {d : W} (h : askW (standOf log d) = none) : asksOf S log heard d = [] := by
  unfold asksOf; rw [h]
theorem asksOf_some {S : Setup} {log : Log} {heard : List Hrd} {d : W} {a g : W × W} (h : askW (standOf log d) = some a) (h2 : goodW (standOf log d) = some g) : asksOf S log heard d = asksF a g heard d (partnersOf S d) := by
  unfold asksOf; rw [h, h2]
theorem asksF_len (a g : W × W) (heard : List Hrd) (d : W) (xs : List W) : (asksF a g heard d xs).length ≤ xs.length := by
  unfold asksF; rw [List.length_map]; exact List.length_filter_le _ _
theorem asksF_snoc (a g : W × W) (heard : List Hrd) (d : W) (xs : List W) (x : W) : asksF a g heard d (xs ++ [x]) = asksF a g heard d xs ++ (if (d, x, pick g x) ∉ heard then [(x, pick a x, d)] else []) := by
  unfold asksF
  rw [List.filter_append, List.map_append]
  by_cases h : (d, x, pick g x) ∉ heard
  · rw [if_pos h, List.filter_cons_of_pos (by simpa using h)]; rfl
  · rw [if_neg h, List.filter_cons_of_neg (by simpa using h)]; rfl
section
variable {P : Program} {w : World} {K : PySem.W.Frag} {mg : Str → Option Value} {base : Heap}
theorem sc_houses_of : FnScope ["setup", "deal", "found", "supply"] ["setup", "deal"] (defScope (top 35)) := ⟨rfl, rfl, rfl, by decide +kernel, rfl, by decide +kernel, by decide +kernel⟩
theorem cal_houses_of (T : Txt K mg) : Cal P w K mg base "houses_of" 3 ["setup", "deal"] (spT K J0 (fun a : Setup × W => [enc a.1, enc a.2]) (fun a => SW a.1 ∧ a.2 ∈ a.1.2.1.map (·.1)) (fun a d => d = encL (housesOf a.1 a.2))) := by
  refine cal_of T.d_houses_of fun f fd F => fn_ok F sc_houses_of (fun _ => rfl) fun cdv A outer s H E a hr pre => ?_
  obtain ⟨S, d⟩ := a
  obtain ⟨wf, hd⟩ := pre
  have hd' : d ∈ S.2.1.map (·.1) := hd
  have l1 : S.1.length ≤ 3 := wf.l1
  refine db_cons (ds_setOD (i := 2) df_nil sc_houses_of.nd ?_)
  refine db_cons (ds_for (xs := S.1) (f := enc) (t := .nm 3) (di_tup (de_ixn 0 (de_var (i := 0) rfl) rfl)) (fun i env => ∃ x, env = [.d (enc S), .d (enc d), .own (.lst ((hof S d (S.1.take i) []).map enc)), x]) ⟨_, rfl⟩ ?_ ?_ ?_ PassesOwn.never)
  · rintro i p _ hp ⟨x, rfl⟩
    refine ⟨_, .nm _ _ _, ?_⟩
    have e : hof S d (S.1.take (i + 1)) [] = if p.2.1 ∉ hof S d (S.1.take i) [] ∧ partsAt S d p.2.1 ≠ [] then hof S d (S.1.take i) [] ++ [p.2.1] else hof S d (S.1.take i) [] := by
      unfold hof; rw [take_succ_of hp, List.foldl_append]; rfl
    have hl := hof_len S d (S.1.take i) []
    rw [List.length_take, List.length_nil] at hl
    refine db_cons (ds_if (tp_cold (dt_w (dw_and (dt_nin hr (x := p.2.1) (ys := hof S d (S.1.take i) []) (de_ixn 1 (de_var (i := 3) rfl) rfl) (de_var (i := 2) rfl) (.lst _)) fun _ => (dw_and1 (dt_neL hr (x := partsAt S d p.2.1) (y := []) (c_parts_at T (hr.mono (by decide)) (x := S) (y := d) (z := p.2.1) (de_var (i := 0) rfl) (de_var (i := 1) rfl) (de_ixn 1 (de_var (i := 3) rfl) rfl) wf hd') (de_fe df_nil)))))) (fun h => ?_) (fun h => ?_))
    · refine db_cons (ds_appendD (i := 2) rfl (de_ixn 1 (de_var (i := 3) rfl) rfl) (small (m := 1000) (by rw [List.length_map]; omega)) ?_)
      rw [Bool.and_eq_true, Bool.not_eq_true', Bool.not_eq_true', decide_eq_false_iff_not, decide_eq_false_iff_not] at h
      rw [e, if_pos h, List.map_append]
      exact db_nil (db_nil ⟨_, rfl⟩)
    · rw [Bool.and_eq_false_iff, Bool.not_eq_false', Bool.not_eq_false', decide_eq_true_eq, decide_eq_true_eq] at h
      rw [e, if_neg (fun z => h.elim (fun q => z.1 q) fun q => z.2 q)]
      exact db_nil (db_nil ⟨_, rfl⟩)
  · rintro _ ⟨x, rfl⟩
    rw [List.take_length]
    exact db_cons (ds_retD (de_var (i := 2) rfl) rfl)
  · exact (pg_name (i := 3) sc_houses_of.nd rfl (Or.inl rfl))
end
section
variable {X : Cx} {J : Jn} {env : List SL} {a b c d e f : Expr} {pos p : Pos}
theorem c_houses_of (T : Txt X.K X.mg) (hr : Room 3 X.A) {x : Setup} {y : W} (ha : DE X J env a (enc x)) (hb : DE X J env b (enc y)) (h1 : SW x) (h2 : y ∈ x.2.1.map (·.1)) (hg : Gl X "houses_of" := by rfl) (s0 : starEach [a, b] X.env = (false, eval a X.env) :: starEach [b] X.env := by rfl) (s1 : starEach [b] X.env = (false, eval b X.env) :: starEach [] X.env := by rfl) (hpl : (backTo pos (starEach [b] X.env)).any (·.1) = false := by rfl) :
    DE X J env (.Call (.Name "houses_of" p) [a, b] [] pos) (encL (housesOf x y)) := cal_de (cal_houses_of T) hr (x, y) (da_cons ha (da_cons hb da_nil s1) s0) ⟨h1, h2⟩ hg s0 hpl
end
section
variable {P : Program} {w : World} {K : PySem.W.Frag} {mg : Str → Option Value} {base : Heap}
theorem partners_len {S : Setup} (wf : SW S) (d : W) : (partnersOf S d).length ≤ 4 := by
  have l1 : S.1.length ≤ 3 := wf.l1
  have h := hof_len S d S.1 []
  unfold partnersOf housesOf
  rw [List.length_append]
  rw [List.length_nil] at h
  show _ + 1 ≤ 4
  omega
theorem sc_partners : FnScope ["setup", "deal"] ["setup", "deal"] (defScope (top 36)) := ⟨rfl, rfl, rfl, by decide +kernel, rfl, by decide +kernel, by decide +kernel⟩
theorem cal_partners (T : Txt K mg) : Cal P w K mg base "partners" 4 ["setup", "deal"] (spT K J0 (fun a : Setup × W => [enc a.1, enc a.2]) (fun a => SW a.1 ∧ a.2 ∈ a.1.2.1.map (·.1)) (fun a d => d = encL (partnersOf a.1 a.2))) := by
  refine cal_of T.d_partners fun f fd F => fn_ok F sc_partners (fun _ => rfl) fun cdv A outer s H E a hr pre => ?_
  obtain ⟨S, d⟩ := a
  obtain ⟨wf, hd⟩ := pre
  have hd' : d ∈ S.2.1.map (·.1) := hd
  have lp : (partnersOf S d).length ≤ 4 := partners_len wf d
  refine db_cons (ds_retD (de_catL (xs := (housesOf S d).map enc) (ys := [enc W.bank]) (c_houses_of T (hr.mono (by decide)) (x := S) (y := d) (de_var (i := 0) rfl) (de_var (i := 1) rfl) wf hd') (de_fe (df_lst (da_cons (de_gW T.c_BANK) da_nil))) (Nat.le_of_lt (small (m := 4) (by unfold partnersOf at lp; rw [List.length_append] at lp; rw [List.length_map]; exact lp)))) ?_)
  show D.lst _ = D.lst _
  unfold partnersOf
  rw [List.map_append]
  rfl
end
section
variable {X : Cx} {J : Jn} {env : List SL} {a b c d e f : Expr} {pos p : Pos}
theorem c_partners (T : Txt X.K X.mg) (hr : Room 4 X.A) {x : Setup} {y : W} (ha : DE X J env a (enc x)) (hb : DE X J env b (enc y)) (h1 : SW x) (h2 : y ∈ x.2.1.map (·.1)) (hg : Gl X "partners" := by rfl) (s0 : starEach [a, b] X.env = (false, eval a X.env) :: starEach [b] X.env := by rfl) (s1 : starEach [b] X.env = (false, eval b X.env) :: starEach [] X.env := by rfl) (hpl : (backTo pos (starEach [b] X.env)).any (·.1) = false := by rfl) :
    DE X J env (.Call (.Name "partners" p) [a, b] [] pos) (encL (partnersOf x y)) := cal_de (cal_partners T) hr (x, y) (da_cons ha (da_cons hb da_nil s1) s0) ⟨h1, h2⟩ hg s0 hpl
end
section
variable {P : Program} {w : World} {K : PySem.W.Frag} {mg : Str → Option Value} {base : Heap}
theorem sc_asks_of : FnScope ["setup", "log", "heard", "deal", "stage", "found", "who", "place"] ["setup", "log", "heard", "deal"] (defScope (top 39)) := ⟨rfl, rfl, rfl, by decide +kernel, rfl, by decide +kernel, by decide +kernel⟩
theorem cal_asks_of (T : TxW K mg w) : Cal P w K mg base "asks_of" 5 ["setup", "log", "heard", "deal"] (spT K J0 (fun a : Setup × Log × List Hrd × W => [enc a.1, enc a.2.1, enc a.2.2.1, enc a.2.2.2]) (fun a => SW a.1 ∧ a.2.2.2 ∈ a.1.2.1.map (·.1)) (fun a d => d = encL (asksOf a.1 a.2.1 a.2.2.1 a.2.2.2))) := by
  refine cal_of T.t.d_asks_of fun f fd F => fn_ok F sc_asks_of (fun _ => rfl) fun cdv A outer s H E a hr pre => ?_
  obtain ⟨S, log, heard, d⟩ := a
  obtain ⟨wf, hd⟩ := pre
  have hd' : d ∈ S.2.1.map (·.1) := hd
  show DB _ _ _ _ _ fun e => e = encL (asksOf S log heard d)
  refine db_cons (ds_setD (i := 4) (c_stage_of T.t (hr.mono (by decide)) (x := log) (y := d) (de_var (i := 1) rfl) (de_var (i := 3) rfl)) sc_asks_of.nd ?_)
  refine db_cons (ds_if (dt_ninK (z := standOf log d) T.asks (de_var (i := 4) rfl)) (fun h => ?_) (fun h => ?_))
  · refine db_cons (ds_retD (de_fe df_nil) ?_)
    rw [asksOf_none]
    · rfl
    · cases e : askW (standOf log d) with
      | none => rfl
      | some x => rw [e] at h; cases h
  obtain ⟨p, ha⟩ : ∃ p, askW (standOf log d) = some p := by
    cases e : askW (standOf log d) with
    | none => rw [e] at h; cases h
    | some x => exact ⟨x, rfl⟩
  obtain ⟨g, hg⟩ := goodW_some ha
  rw [asksOf_some ha hg]
  have lp : (partnersOf S d).length ≤ 4 := partners_len wf d
  refine db_nil ?_
  refine db_cons (ds_setOD (i := 5) df_nil sc_asks_of.nd ?_)
  refine db_cons (ds_for (xs := partnersOf S d) (f := enc) (t := .nm 6) (di_lst (c_partners T.t (hr.mono (by decide)) (x := S) (y := d) (de_var (i := 0) rfl) (de_var (i := 3) rfl) wf hd')) (fun i env => ∃ x y, env = [.d (enc S), .d (enc log), .d (enc heard), .d (enc d), .d (enc (standOf log d)), .own (.lst ((asksF p g heard d ((partnersOf S d).take i)).map enc)), x, y]) ⟨_, _, rfl⟩ ?_ ?_ ?_ PassesOwn.never)
  · rintro i who _ hp ⟨x, y, rfl⟩
    refine ⟨_, .nm _ _ _, ?_⟩
    rw [take_succ_of hp, asksF_snoc]
    have hl := asksF_len p g heard d ((partnersOf S d).take i)
    rw [List.length_take] at hl
    refine db_cons (ds_setD (i := 7) (d := .int (plOf who)) ((de_ite (dt_eq hr (x := who) (y := W.bank) (de_var (i := 6) rfl) (de_gW T.t.c_BANK)) (fun _ => de_int) (fun _ => de_int)).cast (by unfold plOf; by_cases z : who = .bank <;> simp [z])) sc_asks_of.nd ?_)
    refine db_cons (ds_if (dt_nin hr (x := (d, who, pick g who)) (ys := heard) (de_tup (da_cons (de_var (i := 3) rfl) (da_cons (de_var (i := 6) rfl) (da_cons (de_ixT (de_getK (z := standOf log d) T.goods (de_var (i := 4) rfl) (by rw [hg]; rfl)) (de_var (i := 7) rfl) (pick_at g who)) da_nil)))) (de_var (i := 2) rfl) (.tup _)) (fun h => ?_) (fun h => ?_))
    · refine db_cons (ds_appendD (i := 5) rfl (de_tup (da_cons (de_var (i := 6) rfl) (da_cons (de_ixT (de_getK (z := standOf log d) T.asks (de_var (i := 4) rfl) (by rw [ha]; rfl)) (de_var (i := 7) rfl) (pick_at p who)) (da_cons (de_var (i := 3) rfl) da_nil)))) (small (m := 1000) (by rw [List.length_map]; omega)) ?_)
      rw [Bool.not_eq_true', decide_eq_false_iff_not] at h
      rw [if_pos h, List.map_append]
      exact db_nil (db_nil ⟨_, _, rfl⟩)
    · rw [Bool.not_eq_false', decide_eq_true_eq] at h
      rw [if_neg (fun z => z h), List.append_nil]
      exact db_nil (db_nil ⟨_, _, rfl⟩)
  · rintro _ ⟨x, y, rfl⟩
    rw [List.take_length]
    exact db_cons (ds_retD (de_var (i := 5) rfl) rfl)
  · exact (pg_name (i := 6) sc_asks_of.nd rfl (Or.inl rfl))
end
section
variable {X : Cx} {J : Jn} {env : List SL} {a b c d e f : Expr} {pos p : Pos}
theorem c_asks_of (T : TxW X.K X.mg X.w) (hr : Room 5 X.A) {x : Setup} {y : Log} {z : List Hrd} {u : W} (ha : DE X J env a (enc x)) (hb : DE X J env b (enc y)) (hc : DE X J env c (enc z)) (hd : DE X J env d (enc u)) (h1 : SW x) (h2 : u ∈ x.2.1.map (·.1)) (hg : Gl X "asks_of" := by rfl) (s0 : starEach [a, b, c, d] X.env = (false, eval a X.env) :: starEach [b, c, d] X.env := by rfl) (s1 : starEach [b, c, d] X.env = (false, eval b X.env) :: starEach [c, d] X.env := by rfl) (s2 : starEach [c, d] X.env = (false, eval c X.env) :: starEach [d] X.env := by rfl) (s3 : starEach [d] X.env = (false, eval d X.env) :: starEach [] X.env := by rfl) (hpl : (backTo pos (starEach [b, c, d] X.env)).any (·.1) = false := by rfl) :
    DE X J env (.Call (.Name "asks_of" p) [a, b, c, d] [] pos) (encL (asksOf x y z u)) := cal_de (cal_asks_of T) hr (x, y, z, u) (da_cons ha (da_cons hb (da_cons hc (da_cons hd da_nil s3) s2) s1) s0) ⟨h1, h2⟩ hg s0 hpl
end
section
variable {P : Program} {w : World} {K : PySem.W.Frag} {mg : Str → Option Value} {base : Heap}
theorem sc_all_good : FnScope ["setup", "log", "heard", "deal"] ["setup", "log", "heard", "deal"] (defScope (top 40)) := ⟨rfl, rfl, rfl, by decide +kernel, rfl, by decide +kernel, by decide +kernel⟩
theorem cal_all_good (T : TxW K mg w) : Cal P w K mg base "all_good" 6 ["setup", "log", "heard", "deal"] (spT K J0 (fun a : Setup × Log × List Hrd × W => [enc a.1, enc a.2.1, enc a.2.2.1, enc a.2.2.2]) (fun a => SW a.1 ∧ a.2.2.2 ∈ a.1.2.1.map (·.1)) (fun a d => d = .bl (decide (asksOf a.1 a.2.1 a.2.2.1 a.2.2.2 = [])))) := by
  refine cal_of T.t.d_all_good fun f fd F => fn_ok F sc_all_good (fun _ => rfl) fun cdv A outer s H E a hr pre => ?_
  obtain ⟨S, log, heard, d⟩ := a
  obtain ⟨wf, hd⟩ := pre
  have hd' : d ∈ S.2.1.map (·.1) := hd
  exact db_cons (ds_retD (de_eqL hr (x := asksOf S log heard d) (y := []) (c_asks_of T (hr.mono (by decide)) (x := S) (y := log) (z := heard) (u := d) (de_var (i := 0) rfl) (de_var (i := 1) rfl) (de_var (i := 2) rfl) (de_var (i := 3) rfl) wf hd') (de_fe df_nil)) rfl)
end
section
variable {X : Cx} {J : Jn} {env : List SL} {a b c d e f : Expr} {pos p : Pos}
theorem c_all_good (T : TxW X.K X.mg X.w) (hr : Room 6 X.A) {x : Setup} {y : Log} {z : List Hrd} {u : W} (ha : DE X J env a (enc x)) (hb : DE X J env b (enc y)) (hc : DE X J env c (enc z)) (hd : DE X J env d (enc u)) (h1 : SW x) (h2 : u ∈ x.2.1.map (·.1)) (hg : Gl X "all_good" := by rfl) (s0 : starEach [a, b, c, d] X.env = (false, eval a X.env) :: starEach [b, c, d] X.env := by rfl) (s1 : starEach [b, c, d] X.env = (false, eval b X.env) :: starEach [c, d] X.env := by rfl) (s2 : starEach [c, d] X.env = (false, eval c X.env) :: starEach [d] X.env := by rfl) (s3 : starEach [d] X.env = (false, eval d X.env) :: starEach [] X.env := by rfl) (hpl : (backTo pos (starEach [b, c, d] X.env)).any (·.1) = false := by rfl) :
    DE X J env (.Call (.Name "all_good" p) [a, b, c, d] [] pos) (.bl (decide (asksOf x y z u = []))) := cal_de (cal_all_good T) hr (x, y, z, u) (da_cons ha (da_cons hb (da_cons hc (da_cons hd da_nil s3) s2) s1) s0) ⟨h1, h2⟩ hg s0 hpl
end
end Sh
/-! Sh13: comprehensions of two loops. -/
namespace Sh
open PySem PySem.Spec PyProof.Rows L2
open En (enc)
section
variable {X : Cx} {J : Jn} {env : List SL} {elt tg iter tg1 iter1 : Expr} {scope : Scope} {own : List (Str × Nat)} {vs1 : List Nat} {pos : Pos} {t1 : Tgt} {i0 : Nat}
def wiB (X : Cx) (tg iter : Expr) (scope : Scope) : TI := fun σ H R => ∀ (s : Shared) (H2 : Hp) (C : Addr) (cl : List (Str × Addr)) (fp : List Addr), wpI (X.blk s H2 scope (compEnvC scope cl C X.env) fp) tg iter σ H R
theorem df_lc2 {α β : Type} {xs : List α} {ys : List β} {f : α → D} {fy : β → D} {g : α → β → D} {env'' : α → β → List SL} (hi : DI X J env tg iter (xs.map f)) (hc : X.calm = true) (hN : X.N.Nodup) (ok : BlkOk X.N X.env.scope scope own) (hv : ∀ i ∈ vs1, i ∈ own.map (·.2)) (hsl : i0 ∈ own.map (·.2)) (hsl1 : ∀ i ∈ t1.slots, i ∈ vs1)
    (hg : blkX X scope fun X' => PG X' tg (gName i0)) (hg1 : blkX X scope fun X' => PG X' tg1 (t1.g X'.K)) (he'' : ∀ x y, TSt t1 (fy y) (wipeE ((wipeE env (own.map (·.2))).set i0 (.d (f x))) vs1) (env'' x y))
    (hi1 : blkX X scope fun X' => ∀ x ∈ xs, DI X' J ((wipeE env (own.map (·.2))).set i0 (.d (f x))) tg1 iter1 (ys.map fy)) (hel : blkX X scope fun X' => ∀ x ∈ xs, ∀ y ∈ ys, DE X' J (env'' x y) elt (g x y))
    (hl : xs.length * ys.length < sizeLine) (hs : ∀ x, foldedSetIterable iter X.env x = pure x := by intro _; rfl) (hs1 : ∀ env x, foldedSetIterable iter1 env x = pure x := by intro _ _; rfl) : DF X J env (.ListComp elt [⟨tg, iter, [], 0⟩, ⟨tg1, iter1, [], 0⟩] scope pos) (xs.flatMap fun x => ys.map fun y => g x y) := fun G0 H0 σ H G Q s q => by
  refine wp_of (pe_lc2 (wi := wpI X tg iter) (g := gName i0) (tt := ttB X [] scope) (wi1 := wiB X tg1 iter1 scope) (g1 := t1.g X.K) (tt1 := ttB X [] scope) (te := teB X elt scope) (vs1 := vs1) hc hN pi_wp ok hv hg (fun s' H' C cl fp => ⟨fun pins st σ H Q I h => h s' H' C cl fp pins st I⟩) (fun s' H' C cl fp => ⟨fun pins st σ H R I h => h s' H' C cl fp pins st I⟩) hg1 (fun s' H' C cl fp => ⟨fun pins st σ H Q I h => h s' H' C cl fp pins st I⟩) (fun s' H' C cl fp => ⟨fun pins st σ H Q I h => h s' H' C cl fp pins st I⟩) hs hs1) ?_
  refine hi G0 H0 σ H G _ s fun T ds G1 H1 u1 it eds => ?_
  subst eds
  intro D hD
  have s1 := s.ext u1
  have b1 := s1.bs
  have hHD : H D = none := by
    cases z : H D with
    | none => rfl
    | some o => exact absurd hD (u1.fr D (by rw [z]; simp))
  have hGD : G1 D = none := b1.gh.free hD
  have nm : ¬ J.M D := fun m => (b1.al D m).1 hD
  refine ⟨fun i m H' => m = xs.length - i ∧ i ≤ xs.length ∧ ∃ G' vs, Up J G1 H1 G' H' ∧ G' D = none ∧ H' D = some (.lst vs) ∧ IsAll X.K G' vs ((xs.take i).flatMap fun x => ys.map fun y => g x y), ⟨_, rfl, Nat.zero_le _, G1, [], Up.newH b1 hD, hGD, upd_same, .nil⟩, ?_⟩
  rintro i m H' ⟨rfl, hi', G', vs, u, gd, hd, al⟩
  have b' := b1.up u
  have s' := s1.ext u
  by_cases hlt : i < xs.length
  · right
    have hx : xs[i]? = some xs[i] := List.getElem?_eq_getElem hlt
    refine ⟨it.go i H' G' u.g b' (by rw [List.length_map]; exact hlt), fun H'' => ∃ G'' vs, Up J G1 H1 G'' H'' ∧ G'' D = none ∧ H'' D = some (.lst vs) ∧ IsAll X.K G'' vs ((xs.take (i + 1)).flatMap fun x => ys.map fun y => g x y), fun H'' z => ⟨_, by omega, rfl, hlt, z⟩, fun x H2 hy => ?_⟩
    obtain ⟨G2, d, u2, ed, r⟩ := it.yld i H' G' x H2 u.g b' (by rw [List.length_map]; exact hlt) hy
    rw [List.getElem?_map, hx] at ed
    cases ed
    have s2 := (s'.ext u2).wipe (own.map (·.2))
    have s3 := s2.setD i0 r
    show _ ∧ _
    refine ⟨?_, ?_⟩
    · rw [wipe_set hsl, wipe_wipe]
    intro sh Hh C cl fp
    refine dts_nil (X := X.blk sh Hh scope (compEnvC scope cl C X.env) fp) G0 H0 _ H2 G2 _ s3 fun G3 H3 u3 => ?_
    rw [if_pos rfl]
    intro sh Hh C cl fp
    refine hi1 sh Hh C cl fp xs[i] (List.getElem_mem hlt) G0 H0 _ H3 G3 _ (s3.ext u3) fun T1 ds1 G4 H4 u4 it1 eds1 => ?_
    subst eds1
    have live : H' D ≠ none := by rw [hd]; simp
    have hd2 : H2 D = some (.lst vs) := u2.h D _ nm hd
    have hd3 : H3 D = some (.lst vs) := u3.h D _ nm hd2
    have hd4 : H4 D = some (.lst vs) := u4.h D _ nm hd3
    have gd2 : G2 D = none := u2.hid D gd live
    have gd3 : G3 D = none := u3.hid D gd2 (by rw [hd2]; simp)
    have gd4 : G4 D = none := u4.hid D gd3 (by rw [hd3]; simp)
    have u14 : Up J G1 H1 G4 H4 := ((u.trans u2).trans u3).trans u4
    have al4 : IsAll X.K G4 vs ((xs.take i).flatMap fun x => ys.map fun y => g x y) := ((al.mono u2.g).mono u3.g).mono u4.g
    have s4 := (s3.ext u3).ext u4
    have b4 := s4.bs
    refine ⟨fun j k H' => k = ys.length - j ∧ j ≤ ys.length ∧ ∃ G' vs, Up J G1 H1 G' H' ∧ Same G4 G' ∧ G' D = none ∧ H' D = some (.lst vs) ∧ IsAll X.K G' vs (((xs.take i).flatMap fun x => ys.map fun y => g x y) ++ (ys.take j).map fun y => g xs[i] y), ⟨_, rfl, Nat.zero_le _, G4, vs, u14, Same.refl _, gd4, hd4, by rw [List.take_zero, List.map_nil, List.append_nil]; exact al4⟩, ?_⟩
    rintro j k H5 ⟨rfl, hj', G5, ws, u5, e5, gd5, hd5, al5⟩
    have s5 := ((s1.ext u5).wipe (own.map (·.2))).setD i0 (((r.mono u3.g).mono u4.g).mono e5)
    have b5 := s5.bs
    by_cases hjt : j < ys.length
    · right
      have hyj : ys[j]? = some ys[j] := List.getElem?_eq_getElem hjt
      refine ⟨it1.go j H5 G5 e5 b5 (by rw [List.length_map]; exact hjt), fun H'' => ∃ G' vs, Up J G1 H1 G' H'' ∧ Same G4 G' ∧ G' D = none ∧ H'' D = some (.lst vs) ∧ IsAll X.K G' vs (((xs.take i).flatMap fun x => ys.map fun y => g x y) ++ (ys.take (j + 1)).map fun y => g xs[i] y), fun H'' z => ⟨_, by omega, rfl, hjt, z⟩, fun y0 H6 hy0 => ?_⟩
      obtain ⟨G6, d6, u6, ed6, r6⟩ := it1.yld j H5 G5 y0 H6 e5 b5 (by rw [List.length_map]; exact hjt) hy0
      rw [List.getElem?_map, hyj] at ed6
      cases ed6
      have s6 := (s5.ext u6)
      refine tgt_run (s6.wipe vs1) r6 (he'' xs[i] ys[j]) fun σ7 hw7 s7 => ⟨?_, ?_⟩
      · rw [hw7 _ hsl1, wipe_wipe]
      intro sh Hh C cl fp
      refine dts_nil (X := X.blk sh Hh scope (compEnvC scope cl C X.env) fp) G0 H0 σ7 H6 G6 _ s7 fun G8 H8 u8 => ?_
      rw [if_pos rfl]
      intro sh Hh C cl fp
      refine hel sh Hh C cl fp xs[i] (List.getElem_mem hlt) ys[j] (List.getElem_mem hjt) G0 H0 σ7 H8 G8 _ (s7.ext u8) fun v d G9 H9 u9 r9 e9 => ?_
      subst e9
      have hd6 : H6 D = some (.lst ws) := u6.h D _ nm hd5
      have hd8 : H8 D = some (.lst ws) := u8.h D _ nm hd6
      have hd9 : H9 D = some (.lst ws) := u9.h D _ nm hd8
      have gd6 : G6 D = none := u6.hid D gd5 (by rw [hd5]; simp)
      have gd8 : G8 D = none := u8.hid D gd6 (by rw [hd6]; simp)
      have gd9 : G9 D = none := u9.hid D gd8 (by rw [hd8]; simp)
      have al9 := ((al5.mono u6.g).mono u8.g).mono u9.g
      have u19 : Up J G1 H1 G9 H9 := ((u5.trans u6).trans u8).trans u9
      have hlen : ws.length < sizeLine := by
        rw [al5.len, List.length_append, List.length_map, List.length_take, List.length_flatMap]
        have e1 : ((xs.take i).map fun x => (ys.map fun y => g x y).length).sum = i * ys.length := by
          have : ∀ l : List α, (l.map fun x => (ys.map fun y => g x y).length).sum = l.length * ys.length := by
            intro l
            induction l with
            | nil => simp
            | cons a r ih => rw [List.map_cons, List.sum_cons, ih, List.length_map, List.length_cons, Nat.succ_mul]; omega
          rw [this, List.length_take, Nat.min_eq_left (Nat.le_of_lt hlt)]
        rw [e1]
        have e2 : (i + 1) * ys.length ≤ xs.length * ys.length := Nat.mul_le_mul_right _ hlt
        rw [Nat.succ_mul] at e2
        omega
      have s9 := ((s6.ext u8).ext u9)
      refine ⟨ws, hd9, hlen, G9, ws ++ [v], u19.mut b1 hD gd9, ((e5.trans u6.g).trans u8.g).trans u9.g, gd9, upd_same, ?_⟩
      · rw [take_succ_of hyj, List.map_append, ← List.append_assoc]
        exact al9.append (.cons r9 .nil)
    · left
      have e : j = ys.length := by omega
      subst e
      rw [List.take_length] at al5
      refine ⟨it1.stop _ H5 G5 e5 b5 (by rw [List.length_map]), G5, ws, u5, gd5, hd5, ?_⟩
      rw [take_succ_of hx, List.flatMap_append]
      simpa using al5
  · left
    have e : i = xs.length := by omega
    subst e
    rw [List.take_length] at al
    exact ⟨it.stop _ H' G' u.g b' (by rw [List.length_map]), q D vs _ G' H' (u1.trans u) hHD gd hd al rfl⟩
end
end Sh
/-! Ss1: a set of tuples of texts: small questions, its table, the search. -/
namespace Sh
open PySem PySem.Spec PyProof.Rows L2
/-- a row of the set: where its tuple lies, and the texts -/
abbrev Rw := Addr × List Str
abbrev TkH (P : Program) (w : World) (k : List Str) : Int := tupleKeyHash (strKind P w) k
abbrev TkAt (P : Program) (w : World) (h : Heap) (k : List Str) (b : Addr) : Prop := IsTupleKey (strKind P w) h k b
section
variable {P : Program} {w : World} {A : Around} {E : Value → Shared → Prop} {s : Shared}
theorem its_str {k : List Str} {us : List Value} (h : ItemsAre (strKind P w) k us) : ∀ u ∈ us, ∃ x t, u = Value.str x t := by
  induction h with
  | nil => exact fun u hu => by cases hu
  | cons h1 _ ih =>
    intro u hu
    cases hu with
    | head => obtain ⟨t, e⟩ := Value.isStrOf_shape h1; exact ⟨_, t, e⟩
    | tail _ h2 => exact ih u h2
theorem tk_noClass {k : List Str} {b : Addr} {Q : Bool → Shared → Prop} (T : TkAt P w s.heap k b) (q : Q false s) : wpAny (model P w) A (ofAClassStatement 8 (.ref b)) Q E s := by
  have ty := T.typeIs
  obtain ⟨ob, its, m, h1, _, h2, h3⟩ := T
  unfold ofAClassStatement
  refine wpAny_bind (wpAny_typeOf ty ?_); dsimp only
  have tt : (("tuple" : String) == "tuple") = true := by decide
  simp only [tt, if_true, Bool.not_true, Bool.false_eq_true, if_false]; try refine wpAny_bind (wpAny_pure ?_)
  try simp only [Bool.not_true, Bool.false_eq_true, if_false] <;> skip
  show wpAny _ _ (seqItems? (.ref b) >>= _) Q E s
  refine wpAny_bind (wpAny_seqItems h1 h2 ?_); dsimp only
  refine wpAny_bind ?_
  show wpAny _ _ (forIn its _ _) _ E s
  rw [← Array.forIn_toList]
  refine wpAny_forIn_list _ (fun more acc z => acc.1 = none ∧ z = s ∧ ∀ u ∈ more, ∃ x t, u = Value.str x t) _ ?one ?fin _ _ ⟨rfl, rfl, its_str h3⟩
  case one =>
    rintro u more acc z ⟨ha, rfl, hm⟩
    obtain ⟨x, t, rfl⟩ := hm u List.mem_cons_self
    have e0 : ∀ n, ofAClassStatement n (.str x t) = pure false := fun n => by cases n <;> rfl
    rw [e0]
    refine wpAny_bind (wpAny_pure ?_); simp only [Bool.false_eq_true, if_false]
    exact wpAny_pure ⟨rfl, rfl, fun v hv => hm v (.tail _ hv)⟩
  case fin =>
    rintro ⟨a1, a2⟩ z ⟨ha, rfl, _⟩
    simp only at ha; subst ha
    exact wpAny_pure q
theorem tk_byValue {k : List Str} {b : Addr} {Q : Bool → Shared → Prop} (T : TkAt P w s.heap k b) (q : ∀ v, Q v s) : wpAny (model P w) A (hashByValue 8 (.ref b)) Q E s := by
  have ty := T.typeIs
  obtain ⟨ob, its, m, h1, _, h2, h3⟩ := T
  unfold hashByValue
  refine wpAny_bind (wpAny_specialOf ty F.slot_tuple_hash.lookup ?_); show wpAny _ _ (seqItems? (.ref b) >>= _) Q E s
  refine wpAny_bind (wpAny_seqItems h1 h2 ?_)
  refine wpAny_bind ?_; show wpAny _ _ (forIn its _ _) _ E s
  rw [← Array.forIn_toList]
  refine wpAny_forIn_list _ (fun more acc z => acc.1 = none ∧ z = s ∧ ∀ u ∈ more, ∃ x t, u = Value.str x t) _ ?one ?fin _ _ ⟨rfl, rfl, its_str h3⟩
  case one =>
    rintro u more acc z ⟨ha, rfl, hm⟩
    obtain ⟨x, t, rfl⟩ := hm u List.mem_cons_self
    have e0 : ∀ n, hashByValue n (.str x t) = pure false := fun n => by cases n <;> rfl
    rw [e0]
    refine wpAny_bind (wpAny_pure ?_); simp only [Bool.not_false, if_true]
    exact wpAny_pure (wpAny_pure (q _))
  case fin =>
    rintro ⟨a1, a2⟩ z ⟨ha, rfl, _⟩
    simp only at ha; subst ha
    exact wpAny_pure (q _)
/-- nothing is shown by a search among such tuples -/
theorem tk_quiet {k : List Str} {b : Addr} {Q : Bool → Shared → Prop} (T : TkAt P w s.heap k b) {us : List Value} (hu : ∀ u ∈ us, ∃ k' c, u = Value.ref c ∧ TkAt P w s.heap k' c) (q : Q false s) : wpAny (model P w) A (searchCouldBeSeen (.ref b) us) Q E s := by
  unfold searchCouldBeSeen
  refine wpAny_bind (wpAny_forIn_list _ (fun more acc z => acc.1 = none ∧ z = s ∧ ∀ u ∈ more, ∃ k' c, u = Value.ref c ∧ TkAt P w s.heap k' c) _ ?one ?fin _ _ ⟨rfl, rfl, hu⟩)
  case one =>
    rintro u more acc z ⟨ha, rfl, hm⟩
    obtain ⟨k', c, rfl, T2⟩ := hm u List.mem_cons_self
    have hm2 : ∀ v ∈ more, ∃ k' c, v = Value.ref c ∧ TkAt P w z.heap k' c := fun v hv => hm v (.tail _ hv)
    dsimp only
    by_cases same : (b == c || (carriedByValue (.ref b) && carriedByValue (.ref c))) = true
    · exact wp_if_pos same (wpAny_pure ⟨rfl, rfl, hm2⟩)
    refine wp_if_neg same (wpAny_bind (wpAny_eqIsQuiet_tuple T ?_)); simp only [Bool.not_true, Bool.false_eq_true, if_false]
    refine wpAny_bind (wpAny_eqIsQuiet_tuple T2 ?_); simp only [Bool.not_true, Bool.false_eq_true, if_false]
    refine wpAny_bind (tk_noClass T ?_); simp only [Bool.false_eq_true, if_false]
    refine wpAny_bind (tk_noClass T2 ?_); simp only [Bool.false_eq_true, if_false]
    exact wpAny_pure ⟨rfl, rfl, hm2⟩
  case fin =>
    rintro ⟨a1, a2⟩ z ⟨ha, rfl, _⟩
    simp only at ha; subst ha
    exact wpAny_pure q
end
def rws (P : Program) (w : World) (L : List Rw) : List (Int × Value) := L.map fun r => (TkH P w r.2, Value.ref r.1)
abbrev hss (P : Program) (w : World) (L : List Rw) : List Int := L.map fun r => TkH P w r.2
/-- the set's object holds just these rows -/
structure SetS (P : Program) (w : World) (h : Heap) (a : Addr) (L : List Rw) (es : Array (Int × Value)) (ep : Nat) (t : SetTable) : Prop where
  obj : ∃ ob, h.get? a = some ob ∧ ob.ExactSet ∧ ob.data = .set es ep t
  ent : es.toList = rws P w L
  tb : TabOk t (hss P w L)
  uni : (L.map (·.2)).Nodup
  ld : w.params.followText "set-order" = true ∨ t.led = true
  space : L.length * 5 < t.mask * 3
  lt64 : L.length < 64
section
variable {P : Program} {w : World} {A : Around} {E : Value → Shared → Prop} {s : Shared} {h : Heap} {a : Addr} {L : List Rw} {es : Array (Int × Value)} {ep : Nat} {t : SetTable}
theorem rws_size (e : es.toList = rws P w L) : es.size = L.length := by
  have z := congrArg List.length e
  unfold rws at z
  rwa [Array.length_toList, List.length_map] at z
theorem fits_of (hd : t.dummies = #[]) (h1 : t.place.size = es.size) (h2 : es.size ≤ t.mask) : t.fits es.size = true := by
  unfold SetTable.fits SetTable.fill
  rw [hd, Bool.and_eq_true, beq_iff_eq, decide_eq_true_eq]
  exact ⟨h1, by show t.place.size + 0 ≤ t.mask; omega⟩
theorem SetS.psize (R : SetS P w h a L es ep t) : t.place.size = L.length := by
  have z := R.tb.sz
  rwa [List.length_map] at z
theorem SetS.fit (R : SetS P w h a L es ep t) : t.fits es.size = true := by
  have z1 := R.psize
  have z2 := rws_size R.ent
  have z3 := R.space
  exact fits_of R.tb.dm (by omega) (by omega)
theorem SetS.at (R : SetS P w h a L es ep t) {i : Nat} {r : Rw} (e : L[i]? = some r) : es[i]? = some (TkH P w r.2, Value.ref r.1) := by
  have z : es.toList[i]? = some (TkH P w r.2, Value.ref r.1) := by
    rw [R.ent]; show (L.map _)[i]? = _; rw [List.getElem?_map, e]; rfl
  rwa [Array.getElem?_toList] at z
theorem SetS.keeps {h' : Heap} (R : SetS P w h a L es ep t) (k : ∀ o, h.get? a = some o → h'.get? a = some o) : SetS P w h' a L es ep t := by
  obtain ⟨ob, e, z⟩ := R.obj
  exact ⟨⟨ob, k ob e, z⟩, R.ent, R.tb, R.uni, R.ld, R.space, R.lt64⟩
/-- the c-th stop on the way of a hash -/
abbrev stp (m : Nat) (x : Int) (c : Nat) : SetTable.Probe := nth m (runAt m (SetTable.bits x % (m + 1)) (SetTable.bits x)) c
theorem stp_go (m : Nat) (x : Int) (c q : Nat) : nth m (stp m x c) q = stp m x (c + q) := (nth_add m c _ q).symm
theorem nth_clean (m : Nat) : ∀ (n : Nat) (p : SetTable.Probe), p.dummy = none → (nth m p n).dummy = none
  | 0, _, z => z
  | n + 1, p, z => nth_clean m n (adv m p) (by unfold adv; split <;> exact z)
/-- the search for an absent or present key, from any stop on -/
theorem seekS (R : SetS P w s.heap a L es ep t) (hT : ∀ r ∈ L, TkAt P w s.heap r.2 r.1) {b : Addr} {k : List Str} (T : TkAt P w s.heap k b) (hu : A.units < cLine) {K : Nat} (K1 : K < 10 * SetTable.turns t.mask)
    (K2 : way t.mask (TkH P w k) K ∉ t.place.toList) (K3 : ∀ c, c < K → way t.mask (TkH P w k) c ∈ t.place.toList) {Q : SetFound → Shared → Prop} (yes : k ∈ L.map (·.2) → Q (.there none) s) (no : k ∉ L.map (·.2) → Q (.free (way t.mask (TkH P w k) K) false) s) :
    ∀ (fu c : Nat) (st : Option SetTable.Probe), st.getD (t.probeStart (TkH P w k)) = stp t.mask (TkH P w k) c → c ≤ K → K - c < fu → (∀ (i : Nat) r, L[i]? = some r → r.2 = k → ∃ d, c ≤ d ∧ d < K ∧ t.place.toList[i]? = some (way t.mask (TkH P w k) d)) →
      wpAny (model P w) A (setSearchFrom a (.ref b) (TkH P w k) true fu st) Q E s := by
  intro fu
  induction fu with
  | zero => intro c st _ _ z; exact absurd z (Nat.not_lt_zero _)
  | succ fu ih =>
    intro c st hst cK hfu keep
    obtain ⟨ob, o1, o2, o3⟩ := R.obj
    have gw : ¬ t.gaveWay = true := by unfold SetTable.gaveWay; rw [mask_odd R.tb.mok]; decide
    rw [setSearchFrom_succ]
    refine wpAny_bind (wpAny_setState_of o1 o3 R.fit ?_); dsimp only
    refine wp_if_neg gw ?_; try refine wpAny_bind (wpAny_pure ?_)
    have jj : ∀ q, (nth t.mask (stp t.mask (TkH P w k) c) q).j = way t.mask (TkH P w k) (c + q) := fun q => congrArg SetTable.Probe.j (stp_go _ _ _ _)
    have sp := go_spec t R.tb.ris R.tb.dm (fun i => (es[i]?.map (·.1)).getD 0) (TkH P w k) (10 * SetTable.turns t.mask) (K - c) (stp t.mask (TkH P w k) c) (nth_clean _ c _ rfl) (by omega) (fun q hq => by rw [jj]; exact K3 (c + q) (by omega)) (by rw [jj, Nat.add_sub_cancel' cK]; exact K2)
    have hat : ∀ (i : Nat) r, L[i]? = some r → (fun i => (es[i]?.map (·.1)).getD 0) i = TkH P w r.2 := fun i r e => by show (es[i]?.map (·.1)).getD 0 = _; rw [R.at e]; rfl
    have lens : t.place.toList.length = L.length := by rw [Array.length_toList]; exact R.psize
    rcases sp with ⟨q, i, q1, q2, q3, q4, q5⟩ | ⟨q4, q5⟩
    · have q6 : t.probe (fun i => (es[i]?.map (·.1)).getD 0) (TkH P w k) (stp t.mask (TkH P w k) c) = _ := q5
      rw [hst, q6]; dsimp only
      rw [jj] at q2
      rw [jj, stp_go]
      have il : i < L.length := by rw [← lens]; exact (List.getElem?_eq_some_iff.mp q2).1
      obtain ⟨r, hr⟩ : ∃ r, L[i]? = some r := ⟨_, List.getElem?_eq_getElem il⟩
      have rm : r ∈ L := List.mem_of_getElem? hr
      have tail : wpAny (model P w) A (searchRest a (.ref b) (TkH P w k) true fu es t (way t.mask (TkH P w k) (c + q)) i (stp t.mask (TkH P w k) (c + (q + 1)))) Q E s := by
        unfold searchRest
        rw [R.at hr]; dsimp only
        refine wpAny_bind (wpAny_holding (wpAny_eqBool_tuple hu (hT r rm) T ?_))
        refine wpAny_bind (wpAny_setState_of o1 o3 R.fit ?_); dsimp only
        by_cases ek : r.2 = k
        · exact wp_if_pos (by simp [ek]) (wpAny_pure (yes (List.mem_map.mpr ⟨r, rm, ek⟩)))
        refine wp_if_neg (by simp [ek]) ?_; try refine wpAny_bind (wpAny_pure ?_)
        rw [sameMem]; dsimp only
        have live : t.slot (way t.mask (TkH P w k) (c + q)) = .live i := slot_live R.tb.ris q2
        simp only [if_true, live, R.at hr]
        refine wpAny_bind (wpAny_isSame_ref_self (wpAny_bind (wpAny_pure ?_))); simp only [if_true]
        refine wp_if_neg (by simp [ek]) (ih (c + (q + 1)) _ rfl (by omega) (by omega) fun i0 r0 e0 k0 => ?_)
        obtain ⟨d, d1, d2, d3⟩ := keep i0 r0 e0 k0
        refine ⟨d, ?_, d2, d3⟩
        by_cases lo : d < c + q
        · refine absurd ((hat i0 r0 e0).trans (by rw [k0])) (q4 (d - c) i0 (by omega) (by rw [jj, Nat.add_sub_cancel' d1]; exact d3))
        by_cases eq : d = c + q
        · exfalso
          rw [eq] at d3
          have l2 := slot_live R.tb.ris d3
          rw [live] at l2
          have e1 : i = i0 := by injection l2
          rw [← e1, hr] at e0
          exact ek (by rw [Option.some.inj e0]; exact k0)
        omega
      by_cases tl : t.led = true
      · refine wp_if_neg (by simp [tl]) ?_; try refine wpAny_bind (wpAny_pure ?_)
        exact tail
      refine wp_if_pos (by simp [tl]) (wpAny_bind (tk_quiet T (fun u hu => ?_) ?_))
      · obtain ⟨e, e1, e2⟩ := List.mem_map.mp hu
        have e3 : e ∈ es ∧ e.1 = TkH P w k := by simpa using e1
        have e4 : e ∈ es.toList := by simpa using e3.1
        rw [R.ent] at e4
        obtain ⟨r2, m2, z2⟩ := List.mem_map.mp e4
        exact ⟨r2.2, r2.1, by rw [← e2, ← z2], hT r2 m2⟩
      · refine wp_if_neg (by decide) ?_; try refine wpAny_bind (wpAny_pure ?_)
        exact tail
    · have q6 : t.probe (fun i => (es[i]?.map (·.1)).getD 0) (TkH P w k) (stp t.mask (TkH P w k) c) = _ := q5
      rw [hst, q6]; dsimp only
      rw [jj, Nat.add_sub_cancel' cK]
      refine wpAny_pure (no fun z => ?_)
      obtain ⟨r0, m0, k0⟩ := List.mem_map.mp z
      obtain ⟨i0, l0, e0⟩ := List.getElem_of_mem m0
      have e00 : L[i0]? = some r0 := by rw [List.getElem?_eq_getElem l0, e0]
      obtain ⟨d, d1, d2, d3⟩ := keep i0 r0 e00 k0
      exact q4 (d - c) i0 (by omega) (by rw [jj, Nat.add_sub_cancel' d1]; exact d3) ((hat i0 r0 e00).trans (by rw [k0]))
theorem seekS0 (R : SetS P w s.heap a L es ep t) (hT : ∀ r ∈ L, TkAt P w s.heap r.2 r.1) {b : Addr} {k : List Str} (T : TkAt P w s.heap k b) (hu : A.units < cLine) {Q : SetFound → Shared → Prop} (yes : k ∈ L.map (·.2) → Q (.there none) s)
    (no : ∀ K, k ∉ L.map (·.2) → way t.mask (TkH P w k) K ∉ t.place.toList → (∀ c, c < K → way t.mask (TkH P w k) c ∈ t.place.toList) → Q (.free (way t.mask (TkH P w k) K) false) s) : wpAny (model P w) A (setSearch a (.ref b) (TkH P w k) true) Q E s := by
  have sp := R.space
  obtain ⟨K, K1, K2, K3⟩ := R.tb.first (by rw [List.length_map]; omega) (TkH P w k)
  have Kb : K < 99999 := by
    have z : 10 * SetTable.turns t.mask ≤ 2000 := by unfold SetTable.turns; rcases R.tb.mok with e | e | e <;> omega
    omega
  unfold setSearch
  refine seekS R hT T hu K1 K2 K3 yes (fun z => no K z K2 K3) 100000 0 none rfl (Nat.zero_le _) (by omega) fun i r e ek => ?_
  have il : i < t.place.toList.length := by rw [Array.length_toList, R.psize]; exact (List.getElem?_eq_some_iff.mp e).1
  have gj := List.getElem?_eq_getElem il
  obtain ⟨d, d1, d2⟩ := R.tb.before K2 (i := i) (h := TkH P w k) (by show (L.map _)[i]? = _; rw [List.getElem?_map, e, ← ek]; rfl) gj
  exact ⟨d, Nat.zero_le _, d1, by rw [gj, d2]⟩
end
end Sh
/-! Ss2: a set of tuples of texts: its table laid anew, adding. -/
namespace Sh
open PySem PySem.Spec PyProof.Rows L2
section
variable {P : Program} {w : World} {A : Around} {E : Value → Shared → Prop} {s : Shared}
theorem tk_but {h h' : Heap} {k : List Str} {a b : Addr} {ob : Obj} {es : Array (Int × Value)} {ep : Nat} {t : SetTable} (T : TkAt P w h k b) (e : h.get? a = some ob) (d : ob.data = .set es ep t) (sb : Heap.SameBut a h h') : TkAt P w h' k b := by
  obtain ⟨o2, its, n, g1, g2, g3, g4⟩ := T
  refine ⟨o2, its, n, (sb.2 b fun z => ?_).trans g1, g2, g3, g4⟩
  rw [z, e] at g1
  have z2 : ob = o2 := Option.some.inj g1
  rw [← z2, d] at g3
  cases g3
theorem tk_up {h h' : Heap} {k : List Str} {b : Addr} (T : TkAt P w h k b) (u : ∀ c o, h.get? c = some o → h'.get? c = some o) : TkAt P w h' k b := by
  obtain ⟨o2, its, n, g1, g2⟩ := T
  exact ⟨o2, its, n, u b o2 g1, g2⟩
theorem mid_perm {α : Type} (l : List α) (p : Nat) (x : α) : (l.take p ++ x :: l.drop p).Perm (x :: l) := by
  refine List.perm_middle.trans ?_
  rw [List.take_append_drop]
theorem rws_mid (L : List Rw) (p : Nat) (r : Rw) : rws P w (L.take p ++ r :: L.drop p) = (rws P w L).take p ++ (TkH P w r.2, Value.ref r.1) :: (rws P w L).drop p := by
  unfold rws
  rw [List.map_append, List.map_cons, List.map_take, List.map_drop]
theorem pick_range {α : Type} (l : List α) : ∀ n, n ≤ l.length → (List.range n).filterMap (fun i => l[i]?) = l.take n
  | 0, _ => rfl
  | n + 1, h => by
    have lt : n < l.length := h
    rw [List.range_succ, List.filterMap_append, pick_range l n (Nat.le_of_lt lt), List.take_succ, List.getElem?_eq_getElem lt, List.filterMap_cons_some (List.getElem?_eq_getElem lt)]
    rfl
/-- the rows in another order -/
theorem reorder (L : List Rw) (es : Array (Int × Value)) (ord : Array Nat) (hr : es.toList = rws P w L) (hp : ord.toList.Perm (List.range L.length)) :
    ∃ L2, (ord.filterMap (es[·]?)).toList = rws P w L2 ∧ L2.Perm L ∧ hss P w L2 = ord.toList.map fun i => (es.map (·.1)).getD i 0 := by
  have sz := rws_size hr
  have at_ : ∀ i (h : i < L.length), es[i]? = some (TkH P w (L[i]).2, Value.ref (L[i]).1) := fun i h => by
    have z : es.toList[i]? = some (TkH P w (L[i]).2, Value.ref (L[i]).1) := by
      rw [hr]; show (L.map _)[i]? = _; rw [List.getElem?_map, List.getElem?_eq_getElem h]; rfl
    rwa [Array.getElem?_toList] at z
  have go : ∀ l : List Nat, (∀ i ∈ l, i < L.length) → l.filterMap (fun i => es[i]?) = rws P w (l.filterMap fun i => L[i]?) ∧ hss P w (l.filterMap fun i => L[i]?) = l.map fun i => (es.map (·.1)).getD i 0 := by
    intro l
    induction l with
    | nil => exact fun _ => ⟨rfl, rfl⟩
    | cons i l ih =>
      intro hl
      have hi := hl i List.mem_cons_self
      obtain ⟨e1, e2⟩ := ih fun j hj => hl j (.tail _ hj)
      rw [List.filterMap_cons_some (List.getElem?_eq_getElem hi), List.filterMap_cons_some (at_ i hi), e1]
      refine ⟨rfl, ?_⟩
      show TkH P w (L[i]).2 :: hss P w (l.filterMap fun i => L[i]?) = _
      rw [e2, List.map_cons]
      have e5 : (es.map (·.1))[i]? = some (TkH P w (L[i]).2) := by rw [Array.getElem?_map, at_ i hi]; rfl
      have e6 : (es.map (·.1)).getD i 0 = TkH P w (L[i]).2 := by rw [Array.getD_eq_getD_getElem?, e5]; rfl
      rw [e6]
  obtain ⟨e1, e2⟩ := go ord.toList fun i hi => List.mem_range.mp (hp.mem_iff.mp hi)
  refine ⟨_, by rw [Array.toList_filterMap]; exact e1, ?_, e2⟩
  have z : (ord.toList.filterMap fun i => L[i]?).Perm ((List.range L.length).filterMap fun i => L[i]?) := hp.filterMap _
  rwa [pick_range L _ (Nat.le_refl _), List.take_length] at z
variable {a : Addr} {L : List Rw} {es : Array (Int × Value)} {ep : Nat} {t : SetTable}
/-- a larger table -/
theorem growS {ob : Obj} (o1 : s.heap.get? a = some ob) (o2 : ob.ExactSet) (o3 : ob.data = .set es ep t) (er : es.toList = rws P w L) (p1 : t.place.size = es.size) (p2 : t.dummies = #[]) (p3 : es.size ≤ t.mask) (uni : (L.map (·.2)).Nodup)
    (ld : w.params.followText "set-order" = true ∨ t.led = true) (few : L.length < 64) {wa M : Nat} (m1 : SetTable.sizeAbove wa - 1 = M) (m2 : MaskOk M) (m3 : SetTable.sizeAbove wa ≤ 128) (m4 : L.length * 5 < M * 3) {Q : Unit → Shared → Prop}
    (q : ∀ h' L' es' ep' t', Heap.SameBut a s.heap h' → SetS P w h' a L' es' ep' t' → L'.Perm L → Q () { s with heap := h' }) : wpAny (model P w) A (setRelay a wa) Q E s := by
  have sz := rws_size er
  obtain ⟨t2, ord, e, hp, tb2, e3, e4, e5, e6⟩ := relaid_ok t (hs := es.map (·.1)) (wanted := wa) m1 m2 (by rw [Array.size_map, sz]; omega)
  rw [Array.size_map, sz] at hp
  obtain ⟨L2, r1, r2, r3⟩ := reorder L es ord er hp
  rw [← r3] at tb2
  have s2 : (ord.filterMap (es[·]?)).size = es.size := by rw [rws_size r1, r2.length_eq, sz]
  rw [setRelay_eq]
  refine wpAny_bind (wpAny_setState_of o1 o3 (fits_of p2 p1 p3) ?_); dsimp only
  refine wp_if_neg (by rw [sizeLine_eq]; omega) ?_; try refine wpAny_bind (wpAny_pure ?_)
  rw [e]; dsimp only
  refine wpAny_bind (wp_if_neg (by rw [s2]; simp) ?_); try refine wpAny_bind (wpAny_pure ?_)
  refine wpAny_pure ?_; dsimp only
  refine wpAny_storeSet_of o1 o3 ?_ (by rw [s2, sz, sizeLine_eq]; omega)
  have sb : Heap.SameBut a s.heap (s.heap.update a (Obj.putSet (ord.filterMap (es[·]?)) t2)) := Heap.SameBut.update ..
  refine q _ L2 _ (ep + 1) t2 sb ⟨⟨_, store_at o1 o3, ⟨o2.1, o2.2.1, o2.2.2⟩, rfl⟩, r1, tb2, (r2.map (·.2)).nodup_iff.mpr uni, by rw [e4]; exact ld, by rw [r2.length_eq, e3]; exact m4, by rw [r2.length_eq]; exact few⟩ r2
/-- one more -/
theorem addS (R : SetS P w s.heap a L es ep t) (hT : ∀ r ∈ L, TkAt P w s.heap r.2 r.1) {b : Addr} {k : List Str} (T : TkAt P w s.heap k b) (hu : A.units < cLine) (few : L.length + 1 < 64) {Q : Bool → Shared → Prop}
    (q : ∀ v h' L' es' ep' t', Heap.SameBut a s.heap h' → SetS P w h' a L' es' ep' t' → (k ∈ L.map (·.2) → L' = L) → (k ∉ L.map (·.2) → L'.Perm ((b, k) :: L)) → Q v { s with heap := h' }) : wpAny (model P w) A (setAddHashed a (.ref b) (TkH P w k)) Q E s := by
  obtain ⟨ob, o1, o2, o3⟩ := R.obj
  have sz := rws_size R.ent
  have spc := R.space
  unfold setAddHashed
  refine wpAny_holding ?_
  rw [show (100000 : Nat) = 99999 + 1 from rfl, setAddHashedIn_succ]
  refine wpAny_bind (wpAny_setState_of o1 o3 R.fit ?_); dsimp only
  refine wp_if_neg (by simp [byScan, Value.scannable]) ?_; try refine wpAny_bind (wpAny_pure ?_)
  refine wpAny_bind (seekS0 R hT T hu (fun z => ?_) fun K z K2 K3 => ?_)
  · exact wpAny_pure (q false s.heap L es ep t (Heap.SameBut.refl a s.heap) R (fun _ => rfl) fun n => absurd z n)
  dsimp only
  refine wpAny_bind (wpAny_setState_of o1 o3 R.fit ?_); dsimp only
  have tp := R.tb.put K2 K3
  generalize t.put (way t.mask (TkH P w k) K) = pt at tp ⊢
  obtain ⟨t1, pl⟩ := pt
  obtain ⟨q1, q2, q3, q4, q5, q6, q7, q8, q9⟩ := tp
  dsimp only at q1 q2 q3 q4 q5 q6 q7 q8 q9 ⊢
  have ein : (SetTable.insertAt es pl (TkH P w k, Value.ref b)).toList = rws P w (L.take pl ++ (b, k) :: L.drop pl) := by rw [SetTable.toList_insertAt, rws_mid, R.ent]
  have pm := mid_perm L pl (b, k)
  have len1 : (L.take pl ++ (b, k) :: L.drop pl).length = L.length + 1 := pm.length_eq
  have tb1 : TabOk t1 (hss P w (L.take pl ++ (b, k) :: L.drop pl)) := by
    have z : hss P w (L.take pl ++ (b, k) :: L.drop pl) = (hss P w L).take pl ++ TkH P w k :: (hss P w L).drop pl := by unfold hss; rw [List.map_append, List.map_cons, List.map_take, List.map_drop]
    rw [z, q1]; exact q3
  have uni1 : ((L.take pl ++ (b, k) :: L.drop pl).map (·.2)).Nodup := (pm.map (·.2)).nodup_iff.mpr (by rw [List.map_cons]; exact List.nodup_cons.mpr ⟨z, R.uni⟩)
  have esz : (SetTable.insertAt es pl (TkH P w k, Value.ref b)).size = L.length + 1 := by rw [rws_size ein, len1]
  generalize SetTable.insertAt es pl (TkH P w k, Value.ref b) = es1 at ein esz ⊢
  generalize L.take pl ++ (b, k) :: L.drop pl = L1 at pm len1 tb1 uni1 ein
  have fin : ∀ t2 : SetTable, t2.place = t1.place → t2.dummies = t1.dummies → t2.mask = t1.mask → t2.led = t1.led → t2.tooFull = t1.tooFull → TabOk t2 (hss P w L1) →
      wpAny (model P w) A (storeSet a es1 t2 >>= fun _ => (if (!false && t2.tooFull) = true then (setRelay a (SetTable.grown (es.size + 1)) >>= fun _ => pure true) else pure true)) Q E s := by
    intro t2 g1 g2 g3 g4 g5 g6
    refine wpAny_bind (wpAny_storeSet_of o1 o3 ?_ (by rw [esz, sizeLine_eq]; omega))
    have sb : Heap.SameBut a s.heap (s.heap.update a (Obj.putSet es1 t2)) := Heap.SameBut.update ..
    have n1 := store_at (es' := es1) (t' := t2) o1 o3
    generalize s.heap.update a (Obj.putSet es1 t2) = h1 at sb n1 ⊢
    have ld1 : w.params.followText "set-order" = true ∨ t2.led = true := by rw [g4, q5]; exact R.ld
    by_cases full : t2.tooFull = true
    · refine wp_if_pos (by simp [full]) (wpAny_bind ?_)
      have f2 : (L.length + 1) * 5 ≥ t.mask * 3 := by
        have z := full
        rw [g5] at z
        unfold SetTable.tooFull at z
        rw [decide_eq_true_eq, q9, List.length_map, q4] at z
        exact z
      have two : (t.mask = 7 ∧ L.length = 4) ∨ (t.mask = 31 ∧ L.length = 18) := by
        rcases R.tb.mok with e | e | e
        · exact .inl ⟨e, by omega⟩
        · exact .inr ⟨e, by omega⟩
        · exfalso; omega
      have go : ∀ M, SetTable.sizeAbove (SetTable.grown (L.length + 1)) - 1 = M → MaskOk M → SetTable.sizeAbove (SetTable.grown (L.length + 1)) ≤ 128 → (L.length + 1) * 5 < M * 3 →
          wpAny (model P w) A (setRelay a (SetTable.grown (L.length + 1))) (fun _ z => wpAny (model P w) A (pure true) Q E z) E { s with heap := h1 } := fun M a1 a2 a3 a4 =>
        growS (s := { s with heap := h1 }) n1 ⟨o2.1, o2.2.1, o2.2.2⟩ rfl ein (by rw [g1, esz]; have z := tb1.sz; rwa [List.length_map, len1] at z) g6.dm (by rw [esz, g3, q4]; rcases two with ⟨e, e2⟩ | ⟨e, e2⟩ <;> omega) uni1 ld1 (by rw [len1]; exact few) a1 a2 a3 (by rw [len1]; exact a4)
          fun h2 L2 es2 ep2 t3 sb2 R2 pm2 => wpAny_pure (q true h2 L2 es2 ep2 t3 (sb.trans sb2) R2 (fun n => absurd n z) fun _ => pm2.trans pm)
      rw [sz]
      rcases two with ⟨_, e2⟩ | ⟨_, e2⟩
      · exact go 31 (by rw [e2, size_20]) (.inr (.inl rfl)) (by rw [e2, size_20]; decide) (by omega)
      · exact go 127 (by rw [e2, size_76]) (.inr (.inr rfl)) (by rw [e2, size_76]; decide) (by omega)
    · refine wp_if_neg (by simp [full]) (wpAny_pure (q true h1 L1 es1 (ep + 1) t2 sb ⟨⟨_, n1, ⟨o2.1, o2.2.1, o2.2.2⟩, rfl⟩, ein, g6, uni1, ld1, ?_, by rw [len1]; exact few⟩ (fun n => absurd n z) fun _ => pm))
      have y := full
      rw [g5] at y
      unfold SetTable.tooFull at y
      rw [decide_eq_true_eq, q9, List.length_map] at y
      rw [len1, g3]; omega
  have off : TabOk { t1 with plain := false } (hss P w L1) := ⟨tb1.ris, tb1.dm, tb1.sz, tb1.mok, tb1.bd, tb1.reach⟩
  by_cases c : t1.plain = true
  · first
      | (refine wp_if_pos c (wpAny_bind (tk_byValue T fun v => ?_)))
      | (refine wpAny_bind (wp_if_pos c (tk_byValue T fun v => ?_)))
    cases v
    · exact fin _ rfl rfl rfl rfl rfl off
    · exact fin t1 rfl rfl rfl rfl rfl tb1
  · first
      | (refine wp_if_neg c (wpAny_bind (wpAny_pure ?_)))
      | (refine wpAny_bind (wp_if_neg c (wpAny_pure ?_)))
    exact fin t1 rfl rfl rfl rfl rfl tb1
end
end Sh
/-! Ss3: set(xs) of a list of text tuples. -/
namespace Sh
open PySem PySem.Spec PyProof.Rows L2
/-- what the first i items have brought -/
structure Has (rs : List Rw) (i : Nat) (L : List Rw) : Prop where
  sub : ∀ r ∈ L, r ∈ rs
  all : ∀ r ∈ rs.take i, r.2 ∈ L.map (·.2)
  few : L.length ≤ i
theorem take_up {α : Type} {l : List α} {i : Nat} {x y : α} (e : l[i]? = some x) (h : y ∈ l.take (i + 1)) : y ∈ l.take i ∨ y = x := by
  rw [List.take_succ, e] at h
  rcases List.mem_append.mp h with z | z
  · exact .inl z
  · exact .inr (by simpa using z)
theorem Has.old {rs L : List Rw} {i : Nat} {r : Rw} (g : Has rs i L) (e : rs[i]? = some r) (m : r.2 ∈ L.map (·.2)) : Has rs (i + 1) L :=
  ⟨g.sub, fun y hy => (take_up e hy).elim (g.all y) fun z => by rw [z]; exact m, Nat.le_succ_of_le g.few⟩
theorem Has.new {rs L L' : List Rw} {i : Nat} {r : Rw} (g : Has rs i L) (e : rs[i]? = some r) (pm : L'.Perm (r :: L)) : Has rs (i + 1) L' := by
  refine ⟨fun y hy => ?_, fun y hy => (pm.map (·.2)).mem_iff.mpr ?_, by rw [pm.length_eq]; exact Nat.succ_le_succ g.few⟩
  · rcases List.mem_cons.mp (pm.mem_iff.mp hy) with z | z
    · rw [z]; exact List.mem_of_getElem? e
    · exact g.sub y z
  · rcases take_up e hy with z | z
    · exact .tail _ (g.all y z)
    · rw [z]; exact .head _
section
variable {P : Program} {w : World} {A : Around} {E : Value → Shared → Prop} {s : Shared}
theorem setS_empty {h : Heap} {a : Addr} (o1 : h.get? a = some { cls := .type "set", dict := none, data := .set #[] 0 (.fresh 0 0 (!w.params.followText "set-order")) }) : SetS P w h a [] #[] 0 (.fresh 0 0 (!w.params.followText "set-order")) where
  obj := ⟨_, o1, ⟨rfl, rfl, rfl⟩, rfl⟩
  ent := rfl
  tb := ⟨.nil, rfl, rfl, Or.inl rfl, fun _ z => (by cases z), fun i _ _ z => (by simp at z)⟩
  uni := .nil
  ld := by
    show _ ∨ (!w.params.followText "set-order") = true
    cases w.params.followText "set-order" <;> simp
  space := by show 0 * 5 < 7 * 3; decide
  lt64 := by show 0 < 64; decide
/-- the loop of set.update -/
theorem loopS {I : Addr} {fp wr : List Addr} {Gn : Array GenState → Array GenState → Prop} {n : Nat} {Pv : Nat → Value → Prop} {St : Nat → Shared → Prop} {R : Result → Shared → Prop}
    (W : WalksS P w A.in1 I fp wr Gn n Pv St) (S : Addr) (nf : S ∉ fp) (rs : List Rw) (en : n = rs.length) (few : rs.length < 64) (val : ∀ i v, Pv i v → ∃ r, rs[i]? = some r ∧ v = .ref r.1)
    (h0 : Heap) (hT : ∀ r ∈ rs, TkAt P w h0 r.2 r.1) (hS : h0.get? S = none) (hw : ∀ b ∈ wr, h0.get? b = none) (hu : A.in1.units < cLine) :
    ∀ (k i : Nat) (s : Shared), n - i = k → i ≤ n → St i s → (∀ b ob, h0.get? b = some ob → s.heap.get? b = some ob) → (∃ L es ep t, SetS P w s.heap S L es ep t ∧ Has rs i L) →
      (∀ z L es ep t, Moved (S :: wr) Gn s z → SetS P w z.heap S L es ep t → Has rs n L → (∀ b ob, h0.get? b = some ob → z.heap.get? b = some ob) → R (.ok (.ret .none)) z) → codeAny (model P w) A (.builtin "set.update.loop" ⟨[.ref S, .ref I], []⟩) R s := by
  have nw : S ∉ wr := fun z => nf (W.sub _ z)
  have up : ∀ b ∈ wr, b ∈ S :: wr := fun _ z => .tail _ z
  have kp : ∀ {y z : Shared}, Moved wr Gn y z → (∀ b ob, h0.get? b = some ob → y.heap.get? b = some ob) → ∀ b ob, h0.get? b = some ob → z.heap.get? b = some ob := fun m f b ob e => m.heap b ob (fun c => by rw [hw b c] at e; cases e) (f b ob e)
  intro k
  induction k with
  | zero =>
    intro i s e0 le st f ⟨L, es, ep, t, R0, g⟩ q
    obtain rfl : i = n := by omega
    refine codeAny_builtin F.entry_set_update_loop ?_
    rw [Around.under_plainId F.plain_set_update_loop _]; show wpAny _ A.in1 (pyNext (.ref I) >>= _) _ _ s
    refine wpAny_bind (W.done s _ _ st fun z m => ?_); show wpAny _ A.in1 (ret Value.none) _ _ z
    exact wpAny_pure (q z L es ep t (m.mono up) (R0.keeps fun ob e => m.heap S ob nw e) g (kp m f))
  | succ k ih =>
    intro i s e0 le st f ⟨L, es, ep, t, R0, g⟩ q
    have lt : i < n := by omega
    refine codeAny_builtin F.entry_set_update_loop ?_
    rw [Around.under_plainId F.plain_set_update_loop _]; show wpAny _ A.in1 (pyNext (.ref I) >>= _) _ _ s
    refine wpAny_bind (W.item i s _ _ lt st fun v z pv st2 m => ?_)
    obtain ⟨r, er, rfl⟩ := val i v pv
    have f2 := kp m f
    have R1 : SetS P w z.heap S L es ep t := R0.keeps fun ob e => m.heap S ob nw e
    have Ts : ∀ r ∈ rs, TkAt P w z.heap r.2 r.1 := fun r hr => tk_up (hT r hr) f2
    have T := Ts r (List.mem_of_getElem? er)
    show wpAny _ A.in1 (holding [Value.ref r.1] (setAdd S (.ref r.1)) >>= _) _ _ z
    refine wpAny_bind (wpAny_holding ?_); unfold setAdd
    refine wpAny_holding (wpAny_bind (wpAny_pyHash_tuple hu T ?_))
    have gf := g.few
    refine addS (s := { z with toks := z.toks + (r.2.length + 1) }) R1 (fun r hr => Ts r (g.sub r hr)) T hu (by omega) fun v h2 L2 es2 ep2 t2 sb R2 c1 c2 => ?_
    have g2 : Has rs (i + 1) L2 := by
      by_cases c : r.2 ∈ L.map (·.2)
      · rw [c1 c]; exact g.old er c
      · exact g.new er (c2 c)
    have f3 : ∀ b ob, h0.get? b = some ob → h2.get? b = some ob := fun b ob e => (sb.2 b fun y => by rw [y, hS] at e; cases e).trans (f2 b ob e)
    refine wpAny_pure ⟨plainId_quiet F.plain_set_update_loop _, ih (i + 1) _ (by omega) lt (W.frame _ z _ _ st2 (Nat.le_add_right _ _) fun b hb ob e => (sb.2 b fun y : b = S => nf (by rw [← y]; exact hb)).trans e) f3 ⟨L2, es2, ep2, t2, R2, g2⟩ fun z2 L3 es3 ep3 t3 m3 R3 g3 f4 => ?_⟩
    exact q z2 L3 es3 ep3 t3 (Moved.trans W.gtrans ((m.mono up).then_heap (Nat.le_add_right _ _) fun b ob hb e => (sb.2 b fun y : b = S => hb (by rw [y]; exact .head _)).trans e) m3) R3 g3 f4
set_option maxHeartbeats 3200000 in
/-- set(xs) -/
theorem callS {l : Addr} {its : Array Value} (rs : List Rw) {Q : Value → Shared → Prop} (hh : A.handled = none) (hl : s.heap.IsList l its) (hi : its.toList = rs.map fun r => Value.ref r.1) (hT : ∀ r ∈ rs, TkAt P w s.heap r.2 r.1) (few : rs.length < 64) (hu : A.units + 3 < cLine)
    (q : ∀ (h' : Heap) (tk : Nat) L es ep t, SetS P w h' s.heap.objs.size L es ep t → Has rs rs.length L → (∀ b ob, s.heap.get? b = some ob → h'.get? b = some ob) → Q (.ref s.heap.objs.size) { s with heap := h', toks := tk }) :
    wpAny (model P w) A (call (.type "set") [.ref l]) Q E s := by
  have isz : its.size = rs.length := by
    have z := congrArg List.length hi
    rwa [Array.length_toList, List.length_map] at z
  obtain ⟨c0, tl0, hmro⟩ := F.called_set.mro
  have hmade := F.called_set.made
  have hsub := F.called_set.sub
  refine wpAny_call (codeAny_of_tree ?_); show wpAny _ _ (callAny (.type "set") _) _ _ _
  refine wpAny_pure ⟨Code.quiet_builtin _ (by decide +kernel), codeAny_builtin F.entry_type_call ?_⟩
  rw [Around.under_plain (weight_type_call_type "set" [.ref l] []) rfl]
  have x1 := F.called_set.notType
  have x2 := F.called_set.canCreate
  have x3 := F.typeCall_set_1 (.ref l)
  repeat (any_goals (first | assumption | wp_step))
  refine codeAny_mono (code_set_led1 (.ref l) (E := E) (Q₁ := fun ob z => ob = .ref s.heap.objs.size ∧ z = { s with heap := s.heap.push { cls := .type "set", dict := none, data := .set #[] 0 (.fresh 0 0 (!w.params.followText "set-order")) } }) ⟨rfl, rfl⟩) fun r s1 hr => ?_
  match r, hr with
  | .error e, hr => exact hr
  | .ok (.ret ob), hr =>
    obtain ⟨rfl, rfl⟩ := hr
    have gS : (s.heap.push ({ cls := .type "set", dict := none, data := .set #[] 0 (.fresh 0 0 (!w.params.followText "set-order")) } : Obj)).get? s.heap.objs.size = some ({ cls := .type "set", dict := none, data := .set #[] 0 (.fresh 0 0 (!w.params.followText "set-order")) } : Obj) := Heap.get?_push_size _ rfl
    have tS : Shared.TypeIs { s with heap := s.heap.push ({ cls := .type "set", dict := none, data := .set #[] 0 (.fresh 0 0 (!w.params.followText "set-order")) } : Obj) } (.ref s.heap.objs.size) "set" := ⟨_, gS, rfl⟩
    have x4 := F.called_set.init.lookup
    have x5 := F.called_set.init.bind (.ref s.heap.objs.size)
    repeat (any_goals (first | assumption | wp_step))
    refine codeAny_mono (codeAny_call_builtin (R := wants (fun r z => r = .none ∧ ∃ h' tk L es ep t, z = { s with heap := h', toks := tk } ∧ SetS P w h' s.heap.objs.size L es ep t ∧ Has rs rs.length L ∧ (∀ b ob, s.heap.get? b = some ob → h'.get? b = some ob)) E) F.called_set.init.plain F.entry_set_init (check_set_init_1 tS ?_)) fun r2 s2 hr2 => ?_
    · obtain ⟨ol, g1, g2, nl, g3⟩ := hl
      obtain ⟨oc, od, oda, osl⟩ := ol
      simp only at g2 g3
      subst g2 g3
      have gl : (s.heap.push ({ cls := .type "set", dict := none, data := .set #[] 0 (.fresh 0 0 (!w.params.followText "set-order")) } : Obj)).get? l = some { cls := .type "list", dict := od, data := .seq its nl, slots := osl } := Heap.get?_push_of_some _ g1
      have y1 := F.sub_list_set
      have y2 := F.sub_list_frozenset
      have y3 : (Value.type "list" == Value.type "dict") = false := by decide
      have l1 : (s.heap.push ({ cls := .type "set", dict := none, data := .set #[] 0 (.fresh 0 0 (!w.params.followText "set-order")) } : Obj)).IsList l its := ⟨_, gl, rfl, nl, rfl⟩
      unfold Builtin.«set.__init__» noKeywords Builtin.Frozenset.updateFrom
      generalize hPI : pyIter = PI
      wp_walk
      subst hPI
      refine wpAny_pyIter_list l1 ?_
      refine wpAny_bind (wpAny_runValue ?_)
      have ll : l < s.heap.objs.size := Heap.lt_size g1
      have h3 : A.in1.in1.in1.handled = none := by simp [hh]
      have zz : (s.heap.push ({ cls := .type "set", dict := none, data := .set #[] 0 (.fresh 0 0 (!w.params.followText "set-order")) } : Obj)).objs.size = s.heap.objs.size + 1 := Heap.size_push ..
      have nI : l ≠ (s.heap.push ({ cls := .type "set", dict := none, data := .set #[] 0 (.fresh 0 0 (!w.params.followText "set-order")) } : Obj)).objs.size := by rw [zz]; exact Nat.ne_of_lt (Nat.lt_succ_of_lt ll)
      have nf : s.heap.objs.size ∉ [(s.heap.push ({ cls := .type "set", dict := none, data := .set #[] 0 (.fresh 0 0 (!w.params.followText "set-order")) } : Obj)).objs.size, l] := by
        rw [zz]; simp only [List.mem_cons, List.not_mem_nil, or_false, not_or]
        exact ⟨Nat.ne_of_lt (Nat.lt_succ_self _), Nat.ne_of_gt ll⟩
      have val : ∀ (i : Nat) (v : Value), its[i]? = some v → ∃ r, rs[i]? = some r ∧ v = .ref r.1 := fun i v hv => by
        have z : its.toList[i]? = some v := by rw [Array.getElem?_toList]; exact hv
        rw [hi, List.getElem?_map, Option.map_eq_some_iff] at z
        obtain ⟨r, e1, e2⟩ := z
        exact ⟨r, e1, e2.symm⟩
      have no : ∀ b, s.heap.objs.size ≤ b → s.heap.get? b = none := fun b hb => by
        cases z : s.heap.get? b with
        | none => rfl
        | some ob => exact absurd (Heap.lt_size z) (Nat.not_lt.mpr hb)
      refine loopS ((Walks.list h3 _ l nI its).toS) s.heap.objs.size nf rs isz few val s.heap hT (no _ (Nat.le_refl _)) (fun b hb => no b (by rw [List.mem_singleton.mp hb, zz]; exact Nat.le_succ _)) hu (its.size - 0) 0 _ (by omega) (Nat.zero_le _)
        ⟨⟨_, Heap.get?_push_size _ rfl, rfl, rfl⟩, (l1.push _)⟩ (fun b ob e => Heap.get?_push_of_some _ (Heap.get?_push_of_some _ e)) ?s0 ?s1
      case s0 => exact ⟨[], #[], 0, _, setS_empty (Heap.get?_push_of_some _ gS), ⟨fun _ z => (by cases z), fun _ z => (by simp at z), Nat.le_refl _⟩⟩
      case s1 =>
        intro z L es ep t m R0 g f
        obtain ⟨h', g2, d', tk', os'⟩ := z
        obtain rfl : g2 = s.gens := m.gens
        obtain rfl : d' = s.drawn := m.drawn
        obtain rfl : os' = s.os := m.os
        show wpAny _ _ _ _ _ _
        refine wpAny_pure ?_; show wpAny _ _ (ret Value.none) _ _ _
        rw [isz] at g
        exact wpAny_pure ⟨rfl, h', tk', L, es, ep, t, rfl, R0, g, f⟩
    · match r2, hr2 with
      | .error e, hr2 => exact hr2
      | .ok (.ret r), hr2 =>
        obtain ⟨rfl, h', tk, L, es, ep, t, rfl, R0, g, f⟩ := hr2
        repeat (any_goals (first | assumption | wp_step))
        exact q _ _ _ _ _ _ R0 g f
      | .ok .next, hr2 => exact hr2.elim
      | .ok .brk, hr2 => exact hr2.elim
      | .ok .cont, hr2 => exact hr2.elim
  | .ok .next, hr => exact hr.elim
  | .ok .brk, hr => exact hr.elim
  | .ok .cont, hr => exact hr.elim
end
end Sh
/-! Ss4: sorted of a set of text tuples; both over the layer. -/
namespace Sh
open PySem PySem.Spec PyProof.Rows L2
open PySem.W (EachIs AllAlike Sortable alike alikeAll list_sort_data dataLe)
theorem perm_lift {α β : Type} {f : α → β} {vs M : List β} (h : vs.Perm M) : ∀ L : List α, M = L.map f → ∃ L1 : List α, vs = L1.map f ∧ L1.Perm L := by
  induction h with
  | nil => intro L e; cases L with
    | nil => exact ⟨[], rfl, .nil⟩
    | cons _ _ => cases e
  | @cons x l1 l2 _ ih => intro L e; cases L with
    | nil => cases e
    | cons y L =>
      injection e with e1 e2
      obtain ⟨L1, z, pm⟩ := ih L e2
      exact ⟨y :: L1, by rw [z, e1]; rfl, pm.cons y⟩
  | swap x y l => intro L e; match L, e with
    | a :: b :: L, e =>
      injection e with e1 e2
      injection e2 with e2 e3
      exact ⟨b :: a :: L, by rw [e1, e2, e3]; rfl, .swap a b L⟩
  | trans _ _ i1 i2 => intro L e; obtain ⟨L2, z2, p2⟩ := i2 L e; obtain ⟨L1, z1, p1⟩ := i1 L2 z2; exact ⟨L1, z1, p1.trans p2⟩
def pyT (r : Rw) : PyData := .tuple (r.2.map .str)
theorem alike_strs : ∀ (a b : List Str), alikeAll (a.map PyData.str) (b.map PyData.str) = true
  | [], _ => by cases ‹List Str› <;> rfl
  | _ :: _, [] => rfl
  | _ :: a, _ :: b => by show (true && alikeAll (a.map .str) (b.map .str)) = true; rw [alike_strs a b]; rfl
theorem deep_strs : ∀ k : List Str, PyData.depthAll (k.map PyData.str) ≤ 1
  | [] => by decide
  | x :: k => by
    have z := deep_strs k
    simp only [List.map_cons, PyData.depthAll, PyData.depth] at z ⊢
    omega
section
variable {P : Program} {w : World} {A : Around} {E : Value → Shared → Prop} {s : Shared}
theorem reads_strs {h : Heap} : ∀ {k : List Str} {us : List Value}, ItemsAre (strKind P w) k us → ReadsAll h us (k.map .str) []
  | _, _, .nil => .nil
  | _, _, .cons h1 t => by
    obtain ⟨tk, rfl⟩ := Value.isStrOf_shape h1
    exact .cons (as := []) (.str _ tk) (reads_strs t)
theorem reads_tk {h : Heap} {r : Rw} (T : TkAt P w h r.2 r.1) : Reads h (.ref r.1) (pyT r) [] := by
  obtain ⟨ob, its, n, g1, g2, g3, g4⟩ := T
  exact .tuple g1 g2 g3 (reads_strs g4)
theorem each_self (L : List Rw) : EachIs (fun v (r : Rw) => v = Value.ref r.1) (L.map fun r => Value.ref r.1) L := by
  induction L with
  | nil => exact .nil
  | cons r L ih => exact .cons rfl ih
theorem each_eq : ∀ {vs : List Value} {L : List Rw}, EachIs (fun v (r : Rw) => v = Value.ref r.1) vs L → vs = L.map fun r => Value.ref r.1
  | _, _, .nil => rfl
  | _, _, .cons h t => by rw [h, each_eq t]; rfl
/-- sorted(the set) -/
theorem sortS {a : Addr} {L : List Rw} {es : Array (Int × Value)} {ep : Nat} {t : SetTable} {Q : Value → Shared → Prop} (R : SetS P w s.heap a L es ep t) (hT : ∀ r ∈ L, TkAt P w s.heap r.2 r.1) (hn : ∀ r ∈ L, r.2 ≠ []) (hh : A.handled = none) (hu : A.units + 64 < cLine)
    (q : ∀ s' p (out : Array Value) (c : Nat) (L' : List Rw), (∀ b ob, s.heap.get? b = some ob → s'.heap.get? b = some ob) → s'.gens = s.gens → s'.os = s.os → s.heap.objs.size ≤ p → s'.heap.get? p = some (seqObj "list" out c) → out.toList = L'.map (fun r => Value.ref r.1) → L'.Perm L → Q (.ref p) s') :
    wpAny (model P w) A (call (.builtin "sorted") [.ref a]) Q E s := by
  obtain ⟨ob, o1, o2, o3⟩ := R.obj
  have sz := rws_size R.ent
  have few := R.lt64
  refine Calls.call_function_entry kind_sorted plain_sorted entry_sorted (args_sorted1 _) ?_
  unfold Builtin.«sorted»; refine wpAny_bind (m := checkCount "sorted" 1 1 _) (wpAny_pure ?_)
  refine wpAny_bind (collect_set (A := A.in1) hh ⟨ob, o1, o2.1, o3⟩ R.fit (by unfold scanBound; omega) R.tb.ris R.ld fun s1 vs k1 hz g1 os1 pm => ?_)
  have e0 : es.toList.map (·.2) = L.map fun r => Value.ref r.1 := by rw [R.ent]; unfold rws; rw [List.map_map]; rfl
  rw [e0] at pm
  obtain ⟨L1, rfl, p1⟩ := perm_lift pm L rfl
  have l1 : L1.length = L.length := p1.length_eq
  refine wpAny_bind (wpAny_newList ?_ (by rw [List.length_map, sizeLine_eq]; omega))
  have nL : (s1.heap.push (seqObj "list" (L1.map fun r => Value.ref r.1).toArray 0)).get? s1.heap.objs.size = some (seqObj "list" (L1.map fun r => Value.ref r.1).toArray 0) := Heap.get?_push_size _ rfl
  have T1 : ∀ r ∈ L1, TkAt P w (s1.heap.push (seqObj "list" (L1.map fun r => Value.ref r.1).toArray 0)) r.2 r.1 := fun r hr => tk_up (hT r (p1.mem_iff.mp hr)) fun c u e => Heap.get?_push_of_some _ (k1 c u e)
  refine wpAny_bind (wpAny_holding (list_sort_data (s := { s1 with heap := s1.heap.push (seqObj "list" (L1.map fun r => Value.ref r.1).toArray 0) }) (bs := L1) (enc := pyT) (R := fun v r => v = Value.ref r.1) nL (each_self L1) ?er ?al ?so (by rw [sizeLine_eq]; omega) ?un fun out lo eo => ?_))
  case er =>
    have go : ∀ l : List Rw, (∀ r ∈ l, r ∈ L1) → EachIs (fun v b => ∃ as, Reads (s1.heap.push (seqObj "list" (L1.map fun r => Value.ref r.1).toArray 0)) v (pyT b) as ∧ s1.heap.objs.size ∉ as) (l.map fun r => Value.ref r.1) l := by
      intro l
      induction l with
      | nil => exact fun _ => .nil
      | cons r l ih => exact fun hl => .cons ⟨[], reads_tk (T1 r (hl r (.head _))), by simp⟩ (ih fun y hy => hl y (.tail _ hy))
    exact go L1 fun _ z => z
  case al =>
    intro d hd d' hd'
    obtain ⟨r, _, rfl⟩ := List.mem_map.mp hd
    obtain ⟨r', _, rfl⟩ := List.mem_map.mp hd'
    show alikeAll (r.2.map .str) (r'.2.map .str) = true
    exact alike_strs _ _
  case so =>
    refine Or.inl fun d hd => ?_
    obtain ⟨r, hr, rfl⟩ := List.mem_map.mp hd
    cases e : r.2 with
    | nil => exact absurd e (hn r (p1.mem_iff.mp hr))
    | cons x k => exact ⟨.str x, k.map .str, by unfold pyT; rw [e]; rfl⟩
  case un =>
    intro r _
    have z := deep_strs r.2
    have z2 : (pyT r).depth ≤ 3 := by unfold pyT; simp only [PyData.depth]; omega
    show A.units + 1 + 1 + (pyT r).depth < cLine
    omega
  obtain ⟨c, hc⟩ := sortedHeap_at (vs := L1.map fun r => Value.ref r.1) (out := out.toArray) nL
  refine wpAny_pure ⟨_, rfl, q _ s1.heap.objs.size out.toArray c (L1.mergeSort (dataLe false pyT)) (fun b u e => ?_) g1 os1 hz hc (each_eq eo) ((List.mergeSort_perm _ _).trans p1)⟩
  have z := k1 b u e
  have lt := Heap.lt_size z
  show (sortedHeap (s1.heap.push (seqObj "list" (L1.map fun r => Value.ref r.1).toArray 0)) s1.heap.objs.size (L1.map fun r => Value.ref r.1) out.toArray).get? b = some u
  rw [sortedHeap_old (Nat.ne_of_lt lt) (by rw [size_push']; exact Nat.lt_succ_of_lt lt)]
  exact Heap.get?_push_of_some _ z
end
/-- the set, as an object of the layer -/
structure SetB (P : Program) (w : World) (h : Heap) (a : Addr) (L : List Rw) : Prop where
  ex : ∃ (es : Array (Int × Value)) (ep : Nat) (t : SetTable), SetS P w h a L es ep t
def SetObj (P : Program) (w : World) (a : Addr) (L : List Rw) : HO := .ext fun h => SetB P w h a L
section
variable {X : Cx} {pins : List (Addr × Obj)} {σ : L2.St} {H : Hp} {s : Shared}
theorem setObj_ok {h : Heap} {a : Addr} {L : List Rw} {P : Program} {w : World} (R : SetB P w h a L) : ObjOk P w H h a (SetObj P w a L) := by
  obtain ⟨es, ep, t, z⟩ := R.ex
  obtain ⟨ob, e, _⟩ := z.obj
  refine ⟨R, ⟨ob, e⟩, fun h1 h2 p k => ?_⟩
  obtain ⟨es', ep', t', z'⟩ := (p : SetB P w h1 a L).ex
  exact ⟨es', ep', t', z'.keeps fun ob e => k ob e⟩
theorem strs_items {P : Program} {w : World} : ∀ {k : List Str} {us : List Value}, Vals (k.map V.str) us → ItemsAre (strKind P w) k us
  | [], _, .nil => .nil
  | x :: k, _, .cons r t => by obtain ⟨tk, rfl⟩ := r; exact .cons (by show Value.isStrOf x (.str x tk) = true; simp [Value.isStrOf]) (strs_items t)
theorem tk_of (I : Inv X pins σ H s) {b : Addr} {k : List Str} (h : SqT X.K H b (k.map V.str)) : TkAt X.prog X.w s.heap k b := by
  obtain ⟨its, r, ⟨ob, g1, g2, n, g3⟩, _⟩ := I.tuple h
  exact ⟨ob, its.toArray, n, g1, g2, g3, by simpa using strs_items r⟩
theorem refs_back : ∀ {rs : List Rw} {us : List Value}, Vals (rs.map fun r => V.ref r.1) us → us = rs.map fun r => Value.ref r.1
  | [], _, .nil => rfl
  | r :: rs, _, .cons h t => by cases h; rw [refs_back t]; rfl
theorem refs_to : ∀ rs : List Rw, Vals (rs.map fun r => V.ref r.1) (rs.map fun r => Value.ref r.1)
  | [] => .nil
  | r :: rs => .cons rfl (refs_to rs)
def rSetS (K : PySem.W.Frag) (P : Program) (w : World) : List V → Hp → VK → Prop := fun xs H Q => ∃ (l : Addr) (rs : List Rw), xs = [V.ref l] ∧ SqL K H l (rs.map fun r => V.ref r.1) ∧ (∀ r ∈ rs, SqT K H r.1 (r.2.map V.str)) ∧ rs.length < 64 ∧
  ∀ a L, H a = none → (∀ r ∈ L, r ∈ rs) → (∀ r ∈ rs, r.2 ∈ L.map (·.2)) → (L.map (·.2)).Nodup → Q (.ref a) (upd H a (SetObj P w a L))
theorem cr_setS (hc : X.calm = true) (hu : X.A.units + 64 < cLine) : CallR X (.type "set") (rSetS X.K X.prog X.w) := by
  intro pins s σ H xs us Q I r h
  obtain ⟨l, rs, rfl, hl, hk, hf, q⟩ := h
  rw [Vals.ref1 r]
  obtain ⟨its, rv, pl, _⟩ := I.list hl
  have fresh : H s.heap.objs.size = none := I.hok.fresh (Nat.le_refl _)
  refine callS (P := X.prog) (w := X.w) rs (I.ok.hd hc) pl.isList (by simpa using refs_back rv) (fun r hr => tk_of I (hk r hr)) hf (by omega) fun h' tk L es ep t R g k => ?_
  exact ⟨.ref s.heap.objs.size, upd H s.heap.objs.size (SetObj X.prog X.w s.heap.objs.size L), I.laid (t' := tk) k (Nat.le_refl _) (setObj_ok ⟨es, ep, t, R⟩), rfl, q _ L fresh g.sub (fun r hr => g.all r (by rw [List.take_length]; exact hr)) R.uni⟩
def rSortS (K : PySem.W.Frag) (P : Program) (w : World) : List V → Hp → VK → Prop := fun vs H Q => ∃ (a : Addr) (L : List Rw), vs = [V.ref a] ∧ H a = some (SetObj P w a L) ∧ (∀ r ∈ L, SqT K H r.1 (r.2.map V.str) ∧ r.2 ≠ []) ∧
  ∀ (L' : List Rw) (p : Addr), L'.Perm L → H p = none → Q (.ref p) (upd H p (.lst (L'.map fun r => V.ref r.1)))
theorem cr_sortS (hc : X.calm = true) (hu : X.A.units + 64 < cLine) : CallR X (.builtin "sorted") (rSortS X.K X.prog X.w) := by
  intro pins s σ H vs us Q I r h
  obtain ⟨a, L, rfl, ha, hk, q⟩ := h
  have B : SetB X.prog X.w s.heap a L := (I.hok a _ ha).1
  obtain ⟨es, ep, t, R⟩ := B.ex
  rw [Vals.ref1 r]
  refine sortS R (fun r hr => tk_of I (hk r hr).1) (fun r hr => (hk r hr).2) (I.ok.hd hc) hu fun s' p out c L' k g o hp hg hout pm => ?_
  have few : L'.length < 64 := by rw [pm.length_eq]; exact R.lt64
  have ln : (L'.map fun r => V.ref r.1).length ≤ sizeLine := by rw [List.length_map, sizeLine_eq]; omega
  have fresh : H p = none := I.hok.fresh hp
  have J : Inv X pins σ (upd H p (.lst (L'.map fun r => V.ref r.1))) { s with heap := s'.heap, gens := s'.gens, drawn := s'.drawn, toks := s'.toks } :=
    I.call (ch := []) (Un.laid k hp fresh) (I.hok.laid k hp ⟨ln, out.toList, c, by rw [hout]; exact refs_to L', hg⟩) (by rw [g]; exact I.bare) (fun _ z => nomatch z)
  have e : s' = { s with heap := s'.heap, gens := s'.gens, drawn := s'.drawn, toks := s'.toks } := by
    cases s'; cases s; cases o; rfl
  rw [e]
  exact ⟨.ref p, _, J, rfl, q L' p pm fresh⟩
end
end Sh
/-! Sh14: tuple(sorted(set(xs))), xs a list of text tuples. -/
namespace Sh
open PySem PySem.Spec PyProof.Rows L2
open En (enc)
/-- values that are tuples of words -/
class Tx (α : Type) [En α] where
  tx : α → List Str
  eq : ∀ a, enc a = D.tup ((tx a).map D.str)
  ne : ∀ a, tx a ≠ []
open Tx (tx)
instance : Tx (W × W × W) := ⟨fun a => [a.1.s, a.2.1.s, a.2.2.s], fun _ => rfl, fun _ => by simp⟩
instance : Tx (W × W × W × W) := ⟨fun a => [a.1.s, a.2.1.s, a.2.2.1.s, a.2.2.2.s], fun _ => rfl, fun _ => by simp⟩
theorem tx_inj {α : Type} [En α] [Tx α] {a b : α} (h : tx a = tx b) : a = b := En.inj a b (by rw [Tx.eq, Tx.eq, h])
theorem isAll_str {K : PySem.W.Frag} {G : Hp} : ∀ {bs : List Str} {vs : List V}, IsAll K G vs (bs.map D.str) → vs = bs.map V.str
  | [], _, h => by cases h; rfl
  | b :: bs, _, h => by cases h with | cons r t => rw [isAll_str t, r.str_inv]; rfl
theorem str_isAll {K : PySem.W.Frag} {G : Hp} : ∀ bs : List Str, IsAll K G (bs.map V.str) (bs.map D.str)
  | [] => .nil
  | b :: bs => .cons (.str b) (str_isAll bs)
theorem rows_of {α : Type} [En α] [Tx α] {K : PySem.W.Frag} {G : Hp} : ∀ {xs : List α} {vs : List V}, IsAll K G vs (xs.map enc) → ∃ rs : List Rw, vs = rs.map (fun r => V.ref r.1) ∧ rs.map (·.2) = xs.map tx ∧ ∀ r ∈ rs, SqT K G r.1 (r.2.map V.str)
  | [], _, h => by cases h; exact ⟨[], rfl, rfl, fun _ z => by cases z⟩
  | x :: xs, _, h => by
    cases h with
    | cons r t =>
      rw [Tx.eq] at r
      obtain ⟨a, us, e, hq, al⟩ := r.tup_inv
      obtain ⟨rs, e1, e2, e3⟩ := rows_of t
      refine ⟨(a, tx x) :: rs, by rw [e, e1]; rfl, by rw [List.map_cons, e2]; rfl, fun r hr => ?_⟩
      rcases List.mem_cons.mp hr with z | z
      · rw [z]; rw [isAll_str al] at hq; exact hq
      · exact e3 r z
theorem keys_of {α : Type} [En α] [Tx α] {xs : List α} : ∀ {l : List (List Str)}, (∀ k ∈ l, ∃ x ∈ xs, tx x = k) → ∃ ys : List α, ys.map tx = l ∧ ∀ y ∈ ys, y ∈ xs
  | [], _ => ⟨[], rfl, fun _ z => by cases z⟩
  | k :: l, h => by
    obtain ⟨x, hx, e⟩ := h k (.head _)
    obtain ⟨ys, e1, e2⟩ := keys_of fun j hj => h j (.tail _ hj)
    exact ⟨x :: ys, by rw [List.map_cons, e, e1], fun y hy => (List.mem_cons.mp hy).elim (fun z => by rw [z]; exact hx) (e2 y)⟩
theorem isAll_rows {K : PySem.W.Frag} {G : Hp} : ∀ {L : List Rw}, (∀ r ∈ L, SqT K G r.1 (r.2.map V.str)) → IsAll K G (L.map fun r => V.ref r.1) (L.map fun r => D.tup (r.2.map D.str))
  | [], _ => .nil
  | r :: L, h => .cons (.tup (h r (.head _)) (str_isAll r.2)) (isAll_rows fun y hy => h y (.tail _ hy))
section
variable {X : Cx} {J : Jn} {env : List SL} {e : Expr} {p p2 p3 pos pos2 pos3 : Pos} {k : Nat}
theorem fe_sortset {α : Type} [En α] [Tx α] {xs : List α} (hr : Room k X.A) (hm : X.mg "sorted" = none) (hm2 : X.mg "set" = none) (ha : DE X J env e (encL xs)) (hl : xs.length < 64) (hg : Gl X "sorted" := by rfl) (hg2 : Gl X "set" := by rfl) (hc : X.calm = true := by rfl)
    (hu : X.A.units + 64 < cLine)
    (h1 : starEach [.Call (.Name "set" p2) [e] [] pos2] X.env = (false, eval (.Call (.Name "set" p2) [e] [] pos2) X.env) :: starEach [] X.env := by rfl) (h2 : starEach [e] X.env = (false, eval e X.env) :: starEach [] X.env := by rfl) (h3 : (backTo pos (starEach [] X.env)).any (·.1) = false := by rfl) (h4 : (backTo pos2 (starEach [] X.env)).any (·.1) = false := by rfl) :
    FE' X J env (.Call (.Name "sorted" p) [.Call (.Name "set" p2) [e] [] pos2] [] pos) (fun ds => ∃ ys : List α, ds = ys.map enc ∧ ys.Nodup ∧ ∀ y, y ∈ ys ↔ y ∈ xs) := fun G0 H0 σ H G Q s q => by
  refine wp_of (pe_callB (cr_sortS hc hu) hg hm (by decide +kernel) (pa_cons (pe_callTy (cr_setS hc hu) hg2 hm2 (by decide +kernel) (pa_cons pe_wp pa_nil h2) (by decide) (by decide) h2 h4) pa_nil h1) (by decide) (by decide) h1 h3) ?_
  refine ha G0 H0 σ H G _ s fun v d G1 H1 u r ed => ?_
  subst ed
  obtain ⟨l, vs, rfl, gl, al⟩ := r.lst_inv
  obtain ⟨rs, rfl, e2, e3⟩ := rows_of al
  have s1 := s.ext u
  have b1 := s1.bs
  have lrs : rs.length = xs.length := by have z := congrArg List.length e2; rwa [List.length_map, List.length_map] at z
  refine ⟨l, rs, rfl, .inl (.inl (b1.gh _ _ gl)), fun r hr => sqT_same b1.gh (e3 r hr), by omega, fun a L fr m1 m2 m3 => ?_⟩
  have u2 := Up.newH b1 (o := SetObj X.prog X.w a L) fr
  have b2 := b1.up u2
  have eG : ∀ r ∈ L, SqT X.K G1 r.1 (r.2.map V.str) := fun r hr => e3 r (m1 r hr)
  have key : ∀ r ∈ L, ∃ x ∈ xs, tx x = r.2 := fun r hr => by
    have z : r.2 ∈ rs.map (·.2) := List.mem_map.mpr ⟨r, m1 r hr, rfl⟩
    rw [e2] at z
    obtain ⟨x, hx, ex⟩ := List.mem_map.mp z
    exact ⟨x, hx, ex⟩
  refine ⟨a, L, rfl, upd_same, fun r hr => ⟨sqT_same b2.gh (eG r hr), ?_⟩, fun L' q' pm fr' => ?_⟩
  · obtain ⟨x, _, ex⟩ := key r hr
    rw [← ex]; exact Tx.ne x
  have u3 := Up.newH b2 (o := .lst (L'.map fun r => V.ref r.1)) fr'
  obtain ⟨ys, y1, y2⟩ := keys_of (xs := xs) (l := L'.map (·.2)) fun kk hk => by
    obtain ⟨r, hr, er⟩ := List.mem_map.mp hk
    obtain ⟨x, hx, ex⟩ := key r (pm.mem_iff.mp hr)
    exact ⟨x, hx, ex.trans er⟩
  have ut := (u.trans u2).trans u3
  have hH : H q' = none := by
    cases z : H q' with
    | none => rfl
    | some o => exact absurd fr' ((u.trans u2).fr q' (by rw [z]; simp))
  have ds : ys.map enc = L'.map fun r => D.tup (r.2.map D.str) := by
    have z := congrArg (List.map fun kk : List Str => D.tup (kk.map D.str)) y1
    rw [List.map_map, List.map_map] at z
    refine Eq.trans (List.map_congr_left fun y _ => Tx.eq y) z
  refine q q' _ _ G1 _ ut hH (b2.gh.free fr') upd_same (isAll_rows fun r hr => eG r (pm.mem_iff.mp hr)) ⟨ys, ds.symm, ?_, fun y => ⟨y2 y, fun hy => ?_⟩⟩
  · have n1 : (L'.map (·.2)).Nodup := (pm.map (·.2)).nodup_iff.mpr m3
    rw [← y1] at n1
    exact List.Pairwise.of_map tx (fun a b hne e => hne (congrArg tx e)) n1
  · have z : tx y ∈ rs.map (·.2) := by rw [e2]; exact List.mem_map.mpr ⟨y, hy, rfl⟩
    obtain ⟨r, hr, er⟩ := List.mem_map.mp z
    have z2 := m2 r hr
    rw [er] at z2
    have z3 : tx y ∈ L'.map (·.2) := (pm.map (·.2)).mem_iff.mpr z2
    rw [← y1] at z3
    obtain ⟨y', h', e'⟩ := List.mem_map.mp z3
    rw [← tx_inj e']; exact h'
theorem ep_sortset {α : Type} [En α] [Tx α] {xs : List α} (hr : Room k X.A) (hm0 : X.mg "tuple" = none) (hm : X.mg "sorted" = none) (hm2 : X.mg "set" = none) (ha : DE X J env e (encL xs)) (hl : xs.length < 64) (hu : X.A.units + 64 < cLine) (hg0 : Gl X "tuple" := by rfl) (hg : Gl X "sorted" := by rfl) (hg2 : Gl X "set" := by rfl) (hc : X.calm = true := by rfl)
    (h0 : starEach [.Call (.Name "sorted" p) [.Call (.Name "set" p2) [e] [] pos2] [] pos] X.env = (false, eval (.Call (.Name "sorted" p) [.Call (.Name "set" p2) [e] [] pos2] [] pos) X.env) :: starEach [] X.env := by rfl) (h00 : (backTo pos3 (starEach [] X.env)).any (·.1) = false := by rfl)
    (h1 : starEach [.Call (.Name "set" p2) [e] [] pos2] X.env = (false, eval (.Call (.Name "set" p2) [e] [] pos2) X.env) :: starEach [] X.env := by rfl) (h2 : starEach [e] X.env = (false, eval e X.env) :: starEach [] X.env := by rfl) (h3 : (backTo pos (starEach [] X.env)).any (·.1) = false := by rfl) (h4 : (backTo pos2 (starEach [] X.env)).any (·.1) = false := by rfl) :
    EP' X J env (.Call (.Name "tuple" p3) [.Call (.Name "sorted" p) [.Call (.Name "set" p2) [e] [] pos2] [] pos] [] pos3) (fun d => ∃ ys : List α, d = enc ys ∧ ys.Nodup ∧ ∀ y, y ∈ ys ↔ y ∈ xs) :=
  ep_tuple (P := fun ds => ∃ ys : List α, ds = ys.map enc ∧ ys.Nodup ∧ ∀ y, y ∈ ys ↔ y ∈ xs) hm0 (ep_fe (fe_sortset hr hm hm2 ha hl hg hg2 hc hu h1 h2 h3 h4) fun ds h => ⟨ds, rfl, h⟩) (fun ds ⟨ys, e, h⟩ => ⟨ys, by rw [e]; rfl, h⟩) hg0 h0 h00
end
end Sh
/-! A7: next_log, shop_step. -/
namespace Sh
open PySem PySem.Spec PyProof.Rows L2
open En (enc)
def badHeard (S : Setup) (heard : List Hrd) (d : W) : Bool := ((partnersOf S d).flatMap fun who => bads.map fun w => decide ((d, who, w) ∈ heard)).any id
def nextLog (S : Setup) (log : Log) (heard : List Hrd) (d : W) : Log :=
  if standOf log d = .begun then
    (if badHeard S heard d = true then log ++ [(.drop, d)] else if asksOf S log heard d = [] then log ++ [(.go, d)] else log)
  else if standOf log d ∈ [W.go, .drop] ∧ asksOf S log heard d = [] then log ++ [(.ended, d)]
  else if standOf log d = .ret ∧ asksOf S log heard d = [] then log ++ [(.returned, d)]
  else log
def ShopRel (S : Setup) (log : Log) (heard : List Hrd) (who word d : W) (r : Log × List Hrd) : Prop :=
  if standOf log d = .em then r = (log, heard)
  else ∃ hs : List Hrd, hs.Nodup ∧ (∀ y, y ∈ hs ↔ y ∈ heard ++ [(d, who, word)]) ∧ r = (nextLog S log hs d, hs)
section
variable {P : Program} {w : World} {K : PySem.W.Frag} {mg : Str → Option Value} {base : Heap}
theorem sc_next_log : FnScope ["setup", "log", "heard", "deal", "stage", "who", "word"] ["setup", "log", "heard", "deal"] (defScope (top 41)) := ⟨rfl, rfl, rfl, by decide +kernel, rfl, by decide +kernel, by decide +kernel⟩
theorem cal_next_log (T : TxW K mg w) : Cal P w K mg base "next_log" 7 ["setup", "log", "heard", "deal"] (spT K J0 (fun a : Setup × Log × List Hrd × W => [enc a.1, enc a.2.1, enc a.2.2.1, enc a.2.2.2]) (fun a => SW a.1 ∧ a.2.2.2 ∈ a.1.2.1.map (·.1) ∧ a.2.1.length ≤ 1000) (fun a d => d = enc (nextLog a.1 a.2.1 a.2.2.1 a.2.2.2))) := by
  refine cal_of T.t.d_next_log fun f fd F => fn_ok F sc_next_log (fun _ => rfl) fun cdv A outer s H E a hr pre => ?_
  obtain ⟨S, log, heard, d⟩ := a
  obtain ⟨wf, hd, hz⟩ := pre
  have wf' : SW S := wf
  have hd' : d ∈ S.2.1.map (·.1) := hd
  have hz' : log.length ≤ 1000 := hz
  have lp : (partnersOf S d).length ≤ 4 := partners_len wf d
  have hcat : (log.map enc).length + [enc (W.drop, d)].length ≤ sizeLine := by rw [List.length_map]; exact Nat.le_of_lt (small (m := 1001) (by show log.length + 1 ≤ 1001; omega))
  show DB _ _ _ _ _ fun e => e = enc (nextLog S log heard d)
  unfold nextLog
  obtain ⟨tp, tm, tis⟩ := T.t.t_BADS
  refine db_cons (ds_setD (i := 4) (c_stage_of T.t (hr.mono (by decide)) (x := log) (y := d) (de_var (i := 1) rfl) (de_var (i := 3) rfl)) sc_next_log.nd ?_)
  refine db_cons (ds_if (dt_eq hr (x := standOf log d) (y := W.begun) (de_var (i := 4) rfl) (de_gW T.t.c_BEGUN)) (fun h => ?_) (fun h => ?_))
  · rw [decide_eq_true_eq] at h
    rw [if_pos h]
    refine db_cons (ds_if (dt_val (c1 := badHeard S heard d) (de_any (bs := (partnersOf S d).flatMap fun who => bads.map fun w => decide ((d, who, w) ∈ heard)) T.t.f_any ((de_fe (df_lc2 (xs := partnersOf S d) (ys := bads) (f := enc) (fy := enc) (g := fun who w => D.bl (decide ((d, who, w) ∈ heard))) (i0 := 5) (t1 := .nm 6) (own := [("who", 5), ("word", 6)]) (vs1 := [6]) (di_lst (c_partners T.t (hr.mono (by decide)) (x := S) (y := d) (de_var (i := 0) rfl) (de_var (i := 3) rfl) wf hd')) rfl sc_next_log.nd (blkOk_by (N := ["setup", "log", "heard", "deal", "stage", "who", "word"]) (sc := defScope (top 41)) (by decide +kernel)) (by decide) (by decide) (by decide)
      (fun _ _ _ _ _ => (pg_name (i := 5) sc_next_log.nd rfl (Or.inl rfl))) (fun _ _ _ _ _ => (pg_name (i := 6) sc_next_log.nd rfl (Or.inl rfl))) (fun _ _ => .nm _ _ _) (fun _ _ _ _ _ x hx => di_tup (de_gref tm tis))
      (fun _ _ _ _ _ x hx y hy => (de_in hr (x := (d, x, y)) (ys := heard) (de_tup (da_cons (de_var (i := 3) rfl) (da_cons (de_var (i := 5) rfl) (da_cons (de_var (i := 6) rfl) da_nil)))) (de_var (i := 2) rfl) (.tup _))) (small (m := 16) (by show (partnersOf S d).length * 4 ≤ 16; omega)))).cast (by rw [List.map_flatMap]; rfl)))) (fun h2 => ?_) (fun h2 => ?_))
    · rw [if_pos h2]
      refine db_cons (ds_retD (de_catT (xs := log.map enc) (ys := [enc (W.drop, d)]) (de_var (i := 1) rfl) (de_tup (da_cons (de_tup (da_cons (de_gW T.t.c_DROP) (da_cons (de_var (i := 3) rfl) da_nil))) da_nil)) hcat) ?_)
      rw [enc_snoc]
    · rw [if_neg (by rw [h2]; exact Bool.false_ne_true)]
      refine db_nil ?_
      refine db_cons (ds_retD (de_ite (dt_val (c_all_good T (hr.mono (by decide)) (x := S) (y := log) (z := heard) (u := d) (de_var (i := 0) rfl) (de_var (i := 1) rfl) (de_var (i := 2) rfl) (de_var (i := 3) rfl) wf hd')) (fun _ => (de_catT (xs := log.map enc) (ys := [enc (W.go, d)]) (de_var (i := 1) rfl) (de_tup (da_cons (de_tup (da_cons (de_gW T.t.c_GO) (da_cons (de_var (i := 3) rfl) da_nil))) da_nil)) hcat)) (fun _ => (de_var (i := 1) rfl))) ?_)
      rw [em_ite2 (enc_snoc _ _) rfl]
  rw [decide_eq_false_iff_not] at h
  rw [if_neg h]
  refine db_nil ?_
  refine db_cons (ds_if (dt_w (dw_and (dt_in hr (x := standOf log d) (ys := [W.go, .drop]) (de_var (i := 4) rfl) (de_tup (da_cons (de_gW T.t.c_GO) (da_cons (de_gW T.t.c_DROP) da_nil))) (.tup _)) fun _ => (dw_and1 (dt_val (c_all_good T (hr.mono (by decide)) (x := S) (y := log) (z := heard) (u := d) (de_var (i := 0) rfl) (de_var (i := 1) rfl) (de_var (i := 2) rfl) (de_var (i := 3) rfl) wf hd'))))) (fun h => ?_) (fun h => ?_))
  · rw [Bool.and_eq_true, decide_eq_true_eq, decide_eq_true_eq] at h
    rw [if_pos h]
    refine db_cons (ds_retD (de_catT (xs := log.map enc) (ys := [enc (W.ended, d)]) (de_var (i := 1) rfl) (de_tup (da_cons (de_tup (da_cons (de_gW T.t.c_ENDED) (da_cons (de_var (i := 3) rfl) da_nil))) da_nil)) hcat) ?_)
    rw [enc_snoc]
  rw [Bool.and_eq_false_iff, decide_eq_false_iff_not, decide_eq_false_iff_not] at h
  rw [if_neg (fun z => h.elim (fun q => q z.1) fun q => q z.2)]
  refine db_nil ?_
  refine db_cons (ds_if (dt_w (dw_and (dt_eq hr (x := standOf log d) (y := W.ret) (de_var (i := 4) rfl) (de_gW T.t.c_RETURN)) fun _ => (dw_and1 (dt_val (c_all_good T (hr.mono (by decide)) (x := S) (y := log) (z := heard) (u := d) (de_var (i := 0) rfl) (de_var (i := 1) rfl) (de_var (i := 2) rfl) (de_var (i := 3) rfl) wf hd'))))) (fun h => ?_) (fun h => ?_))
  · rw [Bool.and_eq_true, decide_eq_true_eq, decide_eq_true_eq] at h
    rw [if_pos h]
    refine db_cons (ds_retD (de_catT (xs := log.map enc) (ys := [enc (W.returned, d)]) (de_var (i := 1) rfl) (de_tup (da_cons (de_tup (da_cons (de_gW T.t.c_RETURNED) (da_cons (de_var (i := 3) rfl) da_nil))) da_nil)) hcat) ?_)
    rw [enc_snoc]
  rw [Bool.and_eq_false_iff, decide_eq_false_iff_not, decide_eq_false_iff_not] at h
  rw [if_neg (fun z => h.elim (fun q => q z.1) fun q => q z.2)]
  refine db_nil ?_
  exact db_cons (ds_retD (de_var (i := 1) rfl) rfl)
end
section
variable {X : Cx} {J : Jn} {env : List SL} {a b c d e f : Expr} {pos p : Pos}
theorem c_next_log (T : TxW X.K X.mg X.w) (hr : Room 7 X.A) {x : Setup} {y : Log} {z : List Hrd} {u : W} (ha : DE X J env a (enc x)) (hb : DE X J env b (enc y)) (hc : DE X J env c (enc z)) (hd : DE X J env d (enc u)) (h1 : SW x) (h2 : u ∈ x.2.1.map (·.1)) (h3 : y.length ≤ 1000) (hg : Gl X "next_log" := by rfl) (s0 : starEach [a, b, c, d] X.env = (false, eval a X.env) :: starEach [b, c, d] X.env := by rfl) (s1 : starEach [b, c, d] X.env = (false, eval b X.env) :: starEach [c, d] X.env := by rfl) (s2 : starEach [c, d] X.env = (false, eval c X.env) :: starEach [d] X.env := by rfl) (s3 : starEach [d] X.env = (false, eval d X.env) :: starEach [] X.env := by rfl) (hpl : (backTo pos (starEach [b, c, d] X.env)).any (·.1) = false := by rfl) :
    DE X J env (.Call (.Name "next_log" p) [a, b, c, d] [] pos) (enc (nextLog x y z u)) := cal_de (cal_next_log T) hr (x, y, z, u) (da_cons ha (da_cons hb (da_cons hc (da_cons hd da_nil s3) s2) s1) s0) ⟨h1, h2, h3⟩ hg s0 hpl
end
section
variable {P : Program} {w : World} {K : PySem.W.Frag} {mg : Str → Option Value} {base : Heap}
theorem sc_shop_step : FnScope ["setup", "log", "heard", "who", "word", "deal"] ["setup", "log", "heard", "who", "word", "deal"] (defScope (top 42)) := ⟨rfl, rfl, rfl, by decide +kernel, rfl, by decide +kernel, by decide +kernel⟩
theorem cal_shop_step (T : TxW K mg w) : Cal P w K mg base "shop_step" 8 ["setup", "log", "heard", "who", "word", "deal"] (spT K J0 (fun a : Setup × Log × List Hrd × W × W × W => [enc a.1, enc a.2.1, enc a.2.2.1, enc a.2.2.2.1, enc a.2.2.2.2.1, enc a.2.2.2.2.2]) (fun a => SW a.1 ∧ a.2.2.2.2.2 ∈ a.1.2.1.map (·.1) ∧ a.2.1.length ≤ 1000 ∧ a.2.2.1.length < 63)
    (fun a d => ∃ r, ShopRel a.1 a.2.1 a.2.2.1 a.2.2.2.1 a.2.2.2.2.1 a.2.2.2.2.2 r ∧ d = enc r)) := by
  refine cal_of T.t.d_shop_step fun f fd F => fn_ok F sc_shop_step (fun _ => rfl) fun cdv A outer s H E a hr pre => ?_
  obtain ⟨S, log, heard, who, word, d⟩ := a
  obtain ⟨wf, hd, hz, hh⟩ := pre
  have hd' : d ∈ S.2.1.map (·.1) := hd
  have hz' : log.length ≤ 1000 := hz
  have hh' : heard.length < 63 := hh
  show DB _ _ _ _ _ fun e => ∃ r, ShopRel S log heard who word d r ∧ e = enc r
  refine db_cons (ds_if (dt_eq hr (x := standOf log d) (y := W.em) (c_stage_of T.t (hr.mono (by decide)) (x := log) (y := d) (de_var (i := 1) rfl) (de_var (i := 5) rfl)) (de_W .em)) (fun h => ?_) (fun h => ?_))
  · rw [decide_eq_true_eq] at h
    exact db_cons (ds_retD (de_tup (da_cons (de_var (i := 1) rfl) (da_cons (de_var (i := 2) rfl) da_nil))) ⟨(log, heard), by show ShopRel S log heard who word d (log, heard); unfold ShopRel; rw [if_pos h], rfl⟩)
  rw [decide_eq_false_iff_not] at h
  refine db_nil ?_
  have hl : (heard ++ [(d, who, word)]).length < 64 := by rw [List.length_append]; show heard.length + 1 < 64; omega
  have hu := hu65 hr
  refine db_cons (ds_set (i := 2) (ep_sortset (xs := heard ++ [(d, who, word)]) hr T.t.f_tuple T.t.f_sorted T.t.f_set ((de_fe (df_lst (da_star (xs := heard.map enc) (de_var (i := 2) rfl) (.tup _) (da_cons (de_tup (da_cons (de_var (i := 5) rfl) (da_cons (de_var (i := 3) rfl) (da_cons (de_var (i := 4) rfl) da_nil)))) da_nil)) (by rw [List.length_append, List.length_map]; show heard.length + 1 ≤ 1000; omega))).cast (by show D.lst _ = D.lst _; rw [List.map_append]; rfl)) hl (by omega)) (fun x hx => ?_) sc_shop_step.nd)
  obtain ⟨hs, rfl, h1, h2⟩ := hx
  exact db_cons (ds_retD (de_tup (da_cons (c_next_log T (hr.mono (by decide)) (x := S) (y := log) (z := hs) (u := d) (de_var (i := 0) rfl) (de_var (i := 1) rfl) (de_var (i := 2) rfl) (de_var (i := 5) rfl) wf hd' hz') (da_cons (de_var (i := 2) rfl) da_nil))) ⟨(nextLog S log hs d, hs), by show ShopRel S log heard who word d _; unfold ShopRel; rw [if_neg h]; exact ⟨hs, h1, h2, rfl⟩, rfl⟩)
end
section
variable {X : Cx} {J : Jn} {env : List SL} {a b c d e f : Expr} {pos p : Pos}
theorem c_shop_step (T : TxW X.K X.mg X.w) (hr : Room 8 X.A) {x : Setup} {y : Log} {z : List Hrd} {o : W} {v : W} {u : W} (ha : DE X J env a (enc x)) (hb : DE X J env b (enc y)) (hc : DE X J env c (enc z)) (hd : DE X J env d (enc o)) (he : DE X J env e (enc v)) (hf : DE X J env f (enc u)) (h1 : SW x) (h2 : u ∈ x.2.1.map (·.1)) (h3 : y.length ≤ 1000) (h4 : z.length < 63) (hg : Gl X "shop_step" := by rfl) (s0 : starEach [a, b, c, d, e, f] X.env = (false, eval a X.env) :: starEach [b, c, d, e, f] X.env := by rfl) (s1 : starEach [b, c, d, e, f] X.env = (false, eval b X.env) :: starEach [c, d, e, f] X.env := by rfl) (s2 : starEach [c, d, e, f] X.env = (false, eval c X.env) :: starEach [d, e, f] X.env := by rfl) (s3 : starEach [d, e, f] X.env = (false, eval d X.env) :: starEach [e, f] X.env := by rfl) (s4 : starEach [e, f] X.env = (false, eval e X.env) :: starEach [f] X.env := by rfl) (s5 : starEach [f] X.env = (false, eval f X.env) :: starEach [] X.env := by rfl) (hpl : (backTo pos (starEach [b, c, d, e, f] X.env)).any (·.1) = false := by rfl) :
    EP' X J env (.Call (.Name "shop_step" p) [a, b, c, d, e, f] [] pos) (fun q => ∃ r, ShopRel x y z o v u r ∧ q = enc r) := cal_ee (cal_shop_step T) hr (x, y, z, o, v, u) (da_cons ha (da_cons hb (da_cons hc (da_cons hd (da_cons he (da_cons hf da_nil s5) s4) s3) s2) s1) s0) ⟨h1, h2, h3, h4⟩ hg s0 hpl
end
end Sh
/-! Sh15: chained comparisons, powers, wide ints, str(n). -/
namespace Sh
open PySem PySem.Spec PyProof.Rows L2
open En (enc)
section
variable {X : Cx} {J : Jn} {env : List SL} {a b c e : Expr} {es : List Expr} {pos p : Pos} {k : Nat} {d x y : D}
theorem de_chain {i j l : Int} (ha : DE X J env a (.int i)) (hb : DE X J env b (.int j)) (hc : DE X J env c (.int l)) (hm : lastMarks [.LtE, .LtE] [b, c] = false := by with_unfolding_all rfl) : DE X J env (.Compare a [.LtE, .LtE] [b, c] pos) (.bl (decide (i ≤ j) && decide (j ≤ l))) := fun G0 H0 σ H G Q s q => by
  refine wp_of (pe_chain op_le op_le pe_wp pe_wp pe_wp hm) ?_
  refine ha G0 H0 σ H G _ s fun v1 d1 G1 H1 u1 r1 p1 => hb G0 H0 σ H1 G1 _ (s.ext u1) fun v2 d2 G2 H2 u2 r2 p2 => ?_
  subst p1 p2
  refine ⟨i, j, r1.int_inv, r2.int_inv, _, rfl, ?_⟩
  by_cases h : i ≤ j
  · rw [if_pos (decide_eq_true h)]
    refine hc G0 H0 σ H2 G2 _ ((s.ext u1).ext u2) fun v3 d3 G3 H3 u3 r3 p3 => ?_
    subst p3
    exact ⟨j, l, r2.int_inv, r3.int_inv, q _ _ G3 H3 ((u1.trans u2).trans u3) (.bl _) (by rw [decide_eq_true h]; rfl)⟩
  · rw [if_neg (by rw [decide_eq_false h]; exact Bool.false_ne_true)]
    exact q _ _ G2 H2 (u1.trans u2) (.bl _) (by rw [decide_eq_false h]; rfl)
theorem dt_chain {i j l : Int} (ha : DE X J env a (.int i)) (hb : DE X J env b (.int j)) (hc : DE X J env c (.int l)) (hm : lastMarks [.LtE, .LtE] [b, c] = false := by with_unfolding_all rfl) : DT X J env (.Compare a [.LtE, .LtE] [b, c] pos) (decide (i ≤ j) && decide (j ≤ l)) := fun G0 H0 σ H G Q s q => by
  refine wpT_of (pt_chain op_le op_le pe_wp pe_wp pe_wp hm) ?_
  refine ha G0 H0 σ H G _ s fun v1 d1 G1 H1 u1 r1 p1 => hb G0 H0 σ H1 G1 _ (s.ext u1) fun v2 d2 G2 H2 u2 r2 p2 => ?_
  subst p1 p2
  refine ⟨i, j, r1.int_inv, r2.int_inv, _, rfl, ?_⟩
  by_cases h : i ≤ j
  · rw [if_pos (decide_eq_true h)]
    refine hc G0 H0 σ H2 G2 _ ((s.ext u1).ext u2) fun v3 d3 G3 H3 u3 r3 p3 => ?_
    subst p3
    exact ⟨j, l, r2.int_inv, r3.int_inv, _, rfl, q _ G3 H3 ((u1.trans u2).trans u3) (by rw [decide_eq_true h]; rfl)⟩
  · rw [if_neg (by rw [decide_eq_false h]; exact Bool.false_ne_true)]
    exact ⟨_, rfl, q _ G2 H2 (u1.trans u2) (by rw [decide_eq_false h]; rfl)⟩
theorem dt_ninS {c : Nat} {z : Str} (ha : DE X J env a (.str ⟨#[c]⟩)) (hb : DE X J env b (.str z)) (hm : behindInMarks .NotIn b = false := by rfl) : DT X J env (.Compare a [.NotIn] [b] pos) (!decide (c ∈ z.cps.toList)) :=
  tp_cmp op_notIn_sign (P := (· = .str ⟨#[c]⟩)) (P1 := (· = .str z)) (fun v u d e G H Q b r1 r2 p1 p2 q => by
    subst p1 p2
    exact ⟨c, z, r1.str_inv, r2.str_inv, q _ _ G H (Up.refl b) (.bl _) ⟨_, rfl, rfl⟩⟩) ha hb hm
theorem di_rangeN {tg : Expr} {n : Nat} (hm : X.mg "range" = none) (h : DE X J env e (.int (n : Int))) (hn : n ≤ 1000000) (hg : Gl X "range" := by rfl) (hs : starEach [e] X.env = [(false, eval e X.env)] := by rfl) : DI X J env tg (.Call (.Name "range" p) [e] [] pos) ((List.range n).map fun i => D.int (0 + (i : Nat))) := by
  have z := di_range1 (tg := tg) (p := p) (pos := pos) hm h (by omega) (by omega) hg hs
  have e1 : ((n : Int)).toNat = n := rfl
  rw [e1] at z
  exact z
theorem rb_I {C : Int → Int → Prop} {g : Int → Int → Int} {K : PySem.W.Frag} {i j : Int} (hc : C i j) : RB K J (rI C fun i j => .int (g i j)) (· = .int i) (· = .int j) (· = .int (g i j)) := fun v u d e G H Q b r1 r2 p1 p2 q => by
  subst p1 p2
  exact ⟨i, j, r1.int_inv, r2.int_inv, hc, q _ _ G H (Up.refl b) (.int _) rfl⟩
theorem de_pow {i j : Int} (ha : DE X J env a (.int i)) (hb : DE X J env b (.int j)) (h1 : 0 ≤ j) (h2 : j ≤ 1000000) (h3 : i.natAbs < 2 ^ 64) : DE X J env (.BinOp a .Pow b pos) (.int (i ^ j.toNat)) := ep_op op_pow (rb_I (g := fun i j => i ^ j.toNat) ⟨h1, h2, h3⟩) ha hb
theorem de_fdiv {i j : Int} (ha : DE X J env a (.int i)) (hb : DE X J env b (.int j)) (h : CDivW i j) : DE X J env (.BinOp a .FloorDiv b pos) (.int (i / j)) := ep_op op_fdivW (rb_I (g := fun i j => i / j) h) ha hb
theorem de_mod {i j : Int} (ha : DE X J env a (.int i)) (hb : DE X J env b (.int j)) (h : 0 < j) : DE X J env (.BinOp a .Mod b pos) (.int (i % j)) := ep_op op_mod (rb_I (C := fun _ j => 0 < j) (g := fun i j => i % j) h) ha hb
theorem de_mul {i j : Int} (ha : DE X J env a (.int i)) (hb : DE X J env b (.int j)) (h : CMulW i j) : DE X J env (.BinOp a .Mult b pos) (.int (i * j)) := ep_op op_mulW (rb_I (g := fun i j => i * j) h) ha hb
theorem de_gt {i j : Int} (ha : DE X J env a (.int i)) (hb : DE X J env b (.int j)) : DE X J env (.Compare a [.Gt] [b] pos) (.bl (decide (j < i))) := ep_cmp op_gt rb_gt ha hb (nomark _)
theorem de_str_int {i : Int} (hm : X.mg "str" = none) (ha : DE X J env a (.int i)) (hi : i.natAbs.log2 < 1920) (hg : Gl X "str" := by rfl) (he : starEach [a] X.env = (false, eval a X.env) :: starEach [] X.env := by rfl) (hpl : (backTo pos (starEach [] X.env)).any (·.1) = false := by rfl) : DE X J env (.Call (.Name "str" p) [a] [] pos) (.str (toString i)) := by
  refine ep_callTy call_str_int hm (by decide +kernel) (da_cons ha da_nil (by exact he)) (fun vs ds' G H Q b al pa q => ?_) hg (by decide) (by decide) he hpl
  subst pa
  obtain ⟨v, rfl, r⟩ := isAll1 al
  rw [r.int_inv]
  exact ⟨i, rfl, hi, q _ _ G H (Up.refl b) (.str _) rfl⟩
end
end Sh
/-! A8: the catalog's checks, on what is well formed. -/
namespace Sh
open PySem PySem.Spec PyProof.Rows L2
open En (enc)
section
variable {P : Program} {w : World} {K : PySem.W.Frag} {mg : Str → Option Value} {base : Heap}
def isNm (w : W) : Bool := match w.s.cps.toList with
  | [] => false
  | c :: r => decide (r.length < 8) && ((Str.cps "abcdefghijklmnopqrstuvwxyz").toList.contains c && (c :: r).all fun c => (Str.cps "abcdefghijklmnopqrstuvwxyz").toList.contains c || (Str.cps "0123456789").toList.contains c)
theorem sc_is_whole : FnScope ["thing", "least", "most"] ["thing", "least", "most"] (defScope (top 46)) := ⟨rfl, rfl, rfl, by decide +kernel, rfl, by decide +kernel, by decide +kernel⟩
theorem cal_is_whole (T : Txt K mg) : Cal P w K mg base "is_whole" 1 ["thing", "least", "most"] (spT K J0 (fun a : Int × Int × Int => [enc a.1, enc a.2.1, enc a.2.2]) (fun a => a.2.1 ≤ a.1 ∧ a.1 ≤ a.2.2) (fun a d => d = .bl true)) := by
  refine cal_of T.d_is_whole fun f fd F => fn_ok F sc_is_whole (fun _ => rfl) fun cdv A outer s H E a hr pre => ?_
  obtain ⟨i, lo, hi⟩ := a
  obtain ⟨h1, h2⟩ := pre
  have h1' : lo ≤ i := h1
  have h2' : i ≤ hi := h2
  refine db_cons (ds_retD (de_and (de_isi (T := "int") (n := "int") (r := true) T.f_isinstance (de_var (i := 0) rfl) (de_bty T.f_int (by decide +kernel)) rfl (by decide +kernel)) fun _ => (de_and (de_not (de_isi (T := "bool") (n := "int") (r := false) T.f_isinstance (de_var (i := 0) rfl) (de_bty T.f_bool (by decide +kernel)) rfl (by decide +kernel))) fun _ => (de_one (de_chain (i := lo) (j := i) (l := hi) (de_var (i := 1) rfl) (de_var (i := 0) rfl) (de_var (i := 2) rfl))))) ?_)
  rw [decide_eq_true h1', decide_eq_true h2']
  rfl
theorem sc_is_name : FnScope ["thing", "sign"] ["thing"] (defScope (top 47)) := ⟨rfl, rfl, rfl, by decide +kernel, rfl, by decide +kernel, by decide +kernel⟩
theorem cal_is_name (T : Txt K mg) : Cal P w K mg base "is_name" 1 ["thing"] (spT K J0 (fun a : W => [enc a]) (fun a => isNm a = true) (fun a d => d = .bl true)) := by
  refine cal_of T.d_is_name fun f fd F => fn_ok F sc_is_name (fun _ => rfl) fun cdv A outer s H E a hr pre => ?_
  have pre' : isNm a = true := pre
  obtain ⟨ts, hts⟩ := T.c_SMALL
  obtain ⟨tf, htf⟩ := T.c_FIGURES
  unfold isNm at pre'
  cases e : a.s.cps.toList with
  | nil => rw [e] at pre'; cases pre'
  | cons c r =>
    rw [e] at pre'
    obtain ⟨h1, h2⟩ := Bool.and_eq_true_iff.mp pre'
    obtain ⟨h2, h3⟩ := Bool.and_eq_true_iff.mp h2
    have h1' : r.length < 8 := of_decide_eq_true h1
    have ll : (a.s.length : Int) = (r.length : Int) + 1 := by
      show ((a.s.cps.size : Nat) : Int) = _
      rw [← Array.length_toList, e]; simp
    have dS : ∀ {env : List SL} {X : Cx} {J : Jn} {q : Pos}, X.mg = mg → Gl X "SMALL" → DE X J env (.Name "SMALL" q) (.str "abcdefghijklmnopqrstuvwxyz") := fun {env X J q} em hg => de_gstr (by rw [em]; exact hts) hg
    have dF : ∀ {env : List SL} {X : Cx} {J : Jn} {q : Pos}, X.mg = mg → Gl X "FIGURES" → DE X J env (.Name "FIGURES" q) (.str "0123456789") := fun {env X J q} em hg => de_gstr (by rw [em]; exact htf) hg
    refine db_cons (ds_if (dt_w (dw_or (dt_not (dt_val (de_isi (T := "str") (n := "str") (r := true) T.f_isinstance (de_var (i := 0) rfl) (de_bty T.f_str (by decide +kernel)) rfl (by decide +kernel)))) fun _ => (dw_or (dt_not ((dt_chain (i := 1) (j := a.s.length) (l := 8) de_int (de_lenS (z := a.s) T.f_len (de_var (i := 0) rfl) (Nat.le_trans a.len (by decide))) de_int))) fun _ => (dw_or1 ((dt_ninS (c := c) (de_ixS (z := a.s) (i := 0) (de_var (i := 0) rfl) de_int (Nat.le_trans a.len (by decide)) (by rw [e]; exact atI_nat (show (c :: r)[0]? = some c from rfl))) (dS rfl rfl))))))) (fun h => ?_) (fun h => ?_))
    · exfalso
      have g1 : (1 : Int) ≤ a.s.length := by rw [ll]; omega
      have g2 : (a.s.length : Int) ≤ 8 := by rw [ll]; omega
      have g3 : c ∈ (Str.cps "abcdefghijklmnopqrstuvwxyz").toList := by simpa using h2
      rw [decide_eq_true g1, decide_eq_true g2, decide_eq_true g3] at h
      cases h
    · refine db_nil ?_
      refine db_cons (ds_retD (de_allF (xs := a.s.cps.toList) (g := fun c => decide (c ∈ (Str.cps "abcdefghijklmnopqrstuvwxyz").toList) || decide (c ∈ (Str.cps "0123456789").toList)) T.f_all (df_lc0 (xs := a.s.cps.toList) (f := fun c => D.str ⟨#[c]⟩) (t := .nm 1) (own := [("sign", 1)]) (di_str (de_var (i := 0) rfl)) rfl sc_is_name.nd (blkOk_by (N := ["thing", "sign"]) (sc := defScope (top 47)) (by decide +kernel)) (by decide) (fun _ _ _ _ _ => (pg_name (i := 1) sc_is_name.nd rfl (Or.inl rfl))) (fun _ => .nm _ _ _)
        (fun _ _ _ _ _ x hx => (de_or (de_inS (de_var (i := 1) rfl) (dS rfl rfl)) fun _ => (de_one (de_inS (de_var (i := 1) rfl) (dF rfl rfl))))) (small (m := 1000) (by rw [e, List.length_cons]; omega)))) ?_)
      rw [e]
      congr 1
      rw [List.all_eq_true] at h3 ⊢
      intro x hx
      have z := h3 x hx
      simpa using z
theorem sc_are_unlike : FnScope ["things", "at"] ["things"] (defScope (top 48)) := ⟨rfl, rfl, rfl, by decide +kernel, rfl, by decide +kernel, by decide +kernel⟩
theorem cal_are_unlike (T : Txt K mg) : Cal P w K mg base "are_unlike" 1 ["things"] (spT K J0 (fun a : List W => [encL a]) (fun a => a.Nodup ∧ a.length ≤ 1000) (fun a d => d = .bl true)) := by
  refine cal_of T.d_are_unlike fun f fd F => fn_ok F sc_are_unlike (fun _ => rfl) fun cdv A outer s H E a hr pre => ?_
  have nd : a.Nodup := pre.1
  have hl : a.length ≤ 1000 := pre.2
  have hl2 : (a.map enc).length = a.length := List.length_map ..
  refine db_cons (ds_retD (de_allF (xs := List.range a.length) (g := fun _ => true) T.f_all (df_lc0 (xs := List.range a.length) (f := fun i => D.int (0 + (i : Nat))) (t := .nm 1) (own := [("at", 1)]) (di_rangeN (n := a.length) T.f_range ((de_len (ds := a.map enc) T.f_len (de_var (i := 0) rfl) (.lst _)).cast (by rw [hl2])) (by omega)) rfl sc_are_unlike.nd (blkOk_by (N := ["things", "at"]) (sc := defScope (top 48)) (by decide +kernel)) (by decide) (fun _ _ _ _ _ => (pg_name (i := 1) sc_are_unlike.nd rfl (Or.inl rfl))) (fun _ => .nm _ _ _)
    (fun _ _ _ _ _ i hi => ?_) (small (m := 1000) (by rw [List.length_range]; omega)))) ?_)
  · have lt : i < a.length := List.mem_range.mp hi
    refine DE.cast (d := .bl (!decide (a[i] ∈ a.take i))) (de_nin hr (x := a[i]) (ys := a.take i) (de_ixL (ds := a.map enc) (i := 0 + (i : Nat)) (de_var (i := 0) rfl) (de_var (i := 1) rfl) ?_) (DE.cast (d := .lst (cutD (a.map enc) none (some (0 + (i : Nat))))) (de_fe (df_slL (ds := a.map enc) (de_var (i := 0) rfl) po0 (po1 (i := 0 + (i : Nat)) (de_var (i := 1) rfl)))) ?_) (.lst _)) ?_
    · rw [Int.zero_add]; exact atI_nat (by rw [List.getElem?_map, List.getElem?_eq_getElem lt]; rfl)
    · rw [cutD_map]
      have z : cutD a none (some (0 + (i : Nat))) = a.take i := by
        unfold cutD
        rw [Int.zero_add]
        have e1 : HT.sIx a.length 0 none = 0 := rfl
        have e2 : HT.sIx a.length a.length (some ((i : Nat) : Int)) = i := by
          have n0 : ¬ ((i : Nat) : Int) < 0 := by omega
          unfold HT.sIx
          simp [n0] <;> omega
        rw [e1, e2]; rfl
      rw [z]
    · have z : a[i] ∉ a.take i := fun z => by
        obtain ⟨j, hj, ej⟩ := List.getElem_of_mem z
        rw [List.length_take] at hj
        rw [List.getElem_take] at ej
        have := (List.getElem_inj nd).mp ej
        omega
      rw [decide_eq_false z]; rfl
  · congr 1
    rw [List.all_eq_true]
    exact fun _ _ => rfl
theorem sc_are_rows : FnScope ["thing", "most", "width", "one"] ["thing", "most", "width"] (defScope (top 49)) := ⟨rfl, rfl, rfl, by decide +kernel, rfl, by decide +kernel, by decide +kernel⟩
theorem cal_are_rows (T : Txt K mg) : Cal P w K mg base "are_rows" 1 ["thing", "most", "width"] (spT K J0 (fun a : List (List D) × Nat × Nat => [.tup (a.1.map .tup), .int (a.2.1 : Nat), .int (a.2.2 : Nat)]) (fun a => a.1.length ≤ a.2.1 ∧ a.2.1 ≤ 1000 ∧ ∀ r ∈ a.1, r.length = a.2.2) (fun a d => d = .bl true)) := by
  refine cal_of T.d_are_rows fun f fd F => fn_ok F sc_are_rows (fun _ => rfl) fun cdv A outer s H E a hr pre => ?_
  obtain ⟨rows, m, n⟩ := a
  obtain ⟨h1, h2, h3⟩ := pre
  have h1' : rows.length ≤ m := h1
  have h2' : m ≤ 1000 := h2
  have hl2 : (rows.map D.tup).length = rows.length := List.length_map ..
  refine db_cons (ds_if (dt_w (dw_or (dt_not (dt_val (de_isi (T := "tuple") (n := "tuple") (r := true) T.f_isinstance (de_var (i := 0) rfl) (de_bty T.f_tuple (by decide +kernel)) rfl (by decide +kernel)))) fun _ => (dw_or1 (dt_gt (i := (rows.map D.tup).length) (j := (m : Nat)) (de_len T.f_len (de_var (i := 0) rfl) (.tup _)) (de_var (i := 1) rfl))))) (fun h => ?_) (fun h => ?_))
  · exfalso
    have z : ¬ ((m : Nat) : Int) < ((rows.map D.tup).length : Nat) := by rw [hl2]; omega
    rw [decide_eq_false z] at h
    cases h
  · refine db_nil ?_
    refine db_cons (ds_retD (de_allF (xs := rows) (g := fun _ => true) T.f_all (df_lc0 (xs := rows) (f := D.tup) (t := .nm 3) (own := [("one", 3)]) (di_tup (de_var (i := 0) rfl)) rfl sc_are_rows.nd (blkOk_by (N := ["thing", "most", "width", "one"]) (sc := defScope (top 49)) (by decide +kernel)) (by decide) (fun _ _ _ _ _ => (pg_name (i := 3) sc_are_rows.nd rfl (Or.inl rfl))) (fun _ => .nm _ _ _)
      (fun _ _ _ _ _ x hx => (de_and (c1 := true) (c2 := true) (de_isi (T := "tuple") (n := "tuple") (r := true) T.f_isinstance (de_var (i := 3) rfl) (de_bty T.f_tuple (by decide +kernel)) rfl (by decide +kernel)) fun _ => (de_one (DE.cast (d := .bl (decide ((x.length : Int) = ((n : Nat) : Int)))) (de_eq hr (x := (x.length : Int)) (y := ((n : Nat) : Int)) (de_len T.f_len (de_var (i := 3) rfl) (.tup _)) (de_var (i := 2) rfl)) (by rw [decide_eq_true (by rw [h3 x hx])]))))) (small (m := 1000) (by omega)))) ?_)
    congr 1
    rw [List.all_eq_true]
    exact fun _ _ => rfl
end
section
variable {X : Cx} {J : Jn} {env : List SL} {a b c d e f : Expr} {pos p : Pos}
theorem c_is_whole (T : Txt X.K X.mg) (hr : Room 1 X.A) {x : Int} {y : Int} {z : Int} (ha : DE X J env a (.int x)) (hb : DE X J env b (.int y)) (hc : DE X J env c (.int z)) (h1 : y ≤ x) (h2 : x ≤ z) (hg : Gl X "is_whole" := by rfl) (s0 : starEach [a, b, c] X.env = (false, eval a X.env) :: starEach [b, c] X.env := by rfl) (s1 : starEach [b, c] X.env = (false, eval b X.env) :: starEach [c] X.env := by rfl) (s2 : starEach [c] X.env = (false, eval c X.env) :: starEach [] X.env := by rfl) (hpl : (backTo pos (starEach [b, c] X.env)).any (·.1) = false := by rfl) :
    DE X J env (.Call (.Name "is_whole" p) [a, b, c] [] pos) (.bl true) := cal_de (cal_is_whole T) hr (x, y, z) (da_cons ha (da_cons hb (da_cons hc da_nil s2) s1) s0) ⟨h1, h2⟩ hg s0 hpl
theorem c_is_name (T : Txt X.K X.mg) (hr : Room 1 X.A) {x : W} (ha : DE X J env a (enc x)) (h1 : isNm x = true) (hg : Gl X "is_name" := by rfl) (s0 : starEach [a] X.env = (false, eval a X.env) :: starEach [] X.env := by rfl) (hpl : (backTo pos (starEach [] X.env)).any (·.1) = false := by rfl) :
    DE X J env (.Call (.Name "is_name" p) [a] [] pos) (.bl true) := cal_de (cal_is_name T) hr x (da_cons ha da_nil s0) h1 hg s0 hpl
theorem c_are_unlike (T : Txt X.K X.mg) (hr : Room 1 X.A) {x : List W} (ha : DE X J env a (encL x)) (h1 : x.Nodup) (h2 : x.length ≤ 1000) (hg : Gl X "are_unlike" := by rfl) (s0 : starEach [a] X.env = (false, eval a X.env) :: starEach [] X.env := by rfl) (hpl : (backTo pos (starEach [] X.env)).any (·.1) = false := by rfl) :
    DE X J env (.Call (.Name "are_unlike" p) [a] [] pos) (.bl true) := cal_de (cal_are_unlike T) hr x (da_cons ha da_nil s0) ⟨h1, h2⟩ hg s0 hpl
theorem c_are_rows (T : Txt X.K X.mg) (hr : Room 1 X.A) {x : List (List D)} {y : Nat} {z : Nat} (ha : DE X J env a (.tup (x.map .tup))) (hb : DE X J env b (.int (y : Nat))) (hc : DE X J env c (.int (z : Nat))) (h1 : x.length ≤ y) (h2 : y ≤ 1000) (h3 : ∀ r ∈ x, r.length = z) (hg : Gl X "are_rows" := by rfl) (s0 : starEach [a, b, c] X.env = (false, eval a X.env) :: starEach [b, c] X.env := by rfl) (s1 : starEach [b, c] X.env = (false, eval b X.env) :: starEach [c] X.env := by rfl) (s2 : starEach [c] X.env = (false, eval c X.env) :: starEach [] X.env := by rfl) (hpl : (backTo pos (starEach [b, c] X.env)).any (·.1) = false := by rfl) :
    DE X J env (.Call (.Name "are_rows" p) [a, b, c] [] pos) (.bl true) := cal_de (cal_are_rows T) hr (x, y, z) (da_cons ha (da_cons hb (da_cons hc da_nil s2) s1) s0) ⟨h1, h2, h3⟩ hg s0 hpl
end
end Sh
/-! A9: is_deal, are_supplies, are_buyers, need_setup. -/
namespace Sh
open PySem PySem.Spec PyProof.Rows L2
open En (enc)
/-- a setup that need_setup lets pass -/
structure SV (S : Setup) : Prop extends SW S where
  n1 : ∀ s ∈ S.1, isNm s.1 = true ∧ isNm s.2.1 = true
  n2 : ∀ d ∈ S.2.1, isNm d.1 = true
  n3 : ∀ b ∈ S.2.2, isNm b.1 = true
  c1 : ∀ s ∈ S.1, 0 ≤ s.2.2 ∧ s.2.2 ≤ 99
  c2 : ∀ d ∈ S.2.1, ∀ p ∈ d.2.2.1, 1 ≤ p.2 ∧ p.2 ≤ 99
  c3 : ∀ d ∈ S.2.1, 0 ≤ d.2.2.2 ∧ d.2.2.2 ≤ 1000000000
  c4 : ∀ b ∈ S.2.2, 0 ≤ b.2 ∧ b.2 ≤ 1000000000
  c5 : ∀ d ∈ S.2.1, d.2.2.1 ≠ []
theorem ds_unpE {X : Cx} {J : Jn} {env : List SL} {e : Expr} {pos : Pos} {Φ : List SL → Prop} {Ψ : D → Prop} {ds : List D} (is : List Nat) {ts : List Expr} {kt : _} {pt : Pos} (h : DE X J env e (.tup ds)) (hl : ds.length = is.length) (k : Φ (setAll env is ds)) (hg : PG X (.Tuple ts kt pt) ((Tgt.tp is).g X.K))
    (hs : swapsWithSole [.Tuple ts kt pt] e pos.line X.env = pure false := by rfl) (hw : swappedStores [.Tuple ts kt pt] e X.env = pure none := by rfl) (h1 : (assignEach [.Tuple ts kt pt] X.env).map (·.2) = [assign (.Tuple ts kt pt) X.env] := by rfl) : DS X J env (.Assign [.Tuple ts kt pt] e pos) Φ Ψ :=
  ds_unpD (P := fun x => x = ds) (h.imp fun _ e => ⟨ds, e, rfl⟩) (fun x e => by rw [e]; exact ⟨hl, k⟩) hg hs hw h1
theorem de_inT {X : Cx} {J : Jn} {env : List SL} {a b : Expr} {pos : Pos} {k : Nat} {y : D} {α : Type} [En α] {x : α} {ys : List α} (h : x ∈ ys) (hr : Room k X.A) (ha : DE X J env a (enc x)) (hb : DE X J env b y) (hq : Sq y (ys.map enc)) (hn : En.dep α ≤ 60 := by decide) (hm : behindInMarks .In b = false := by rfl) : DE X J env (.Compare a [.In] [b] pos) (.bl true) :=
  ep_cmp (op_inA (hu65 hr)) (rb_in (c := true) (neg := false) hq (En.pl x) (PlAll.map En.pl ys) (by omega) (by omega) (by rw [mem_enc]; exact ⟨fun _ => h, fun _ => rfl⟩)) ha hb hm
theorem rows_enc {α β : Type} [En α] [EnT β] (xs : List (α × β)) : (enc xs : D) = .tup ((xs.map (EnT.fs (α := α × β))).map D.tup) := by
  show D.tup _ = D.tup _
  rw [List.map_map]; rfl
theorem sq_map {α β : Type} [En β] (xs : List α) (f : α → β) : Sq (.lst (xs.map fun x => enc (f x))) ((xs.map f).map enc) := by
  rw [List.map_map]; exact .lst _
theorem all_true {α : Type} (xs : List α) : xs.all (fun _ => true) = true := List.all_eq_true.mpr fun _ _ => rfl
section
variable {P : Program} {w : World} {K : PySem.W.Frag} {mg : Str → Option Value} {base : Heap}
theorem sc_is_deal : FnScope ["setup", "thing", "name", "buyer", "parts", "cents", "one", "part"] ["setup", "thing"] (defScope (top 52)) := ⟨rfl, rfl, rfl, by decide +kernel, rfl, by decide +kernel, by decide +kernel⟩
theorem cal_is_deal (T : Txt K mg) : Cal P w K mg base "is_deal" 2 ["setup", "thing"] (spT K J0 (fun a : Setup × Deal => [.tup [enc a.1.1, enc a.1.2.2], enc a.2]) (fun a => SV a.1 ∧ a.2 ∈ a.1.2.1) (fun a d => d = .bl true)) := by
  refine cal_of T.d_is_deal fun f fd F => fn_ok F sc_is_deal (fun _ => rfl) fun cdv A outer s H E a hr pre => ?_
  obtain ⟨S, d⟩ := a
  obtain ⟨wf, hd⟩ := pre
  have hd' : d ∈ S.2.1 := hd
  have l1 : S.1.length ≤ 3 := wf.l1
  have l3 : S.2.2.length ≤ 2 := wf.l3
  have l4 : d.2.2.1.length ≤ 3 := wf.l4 d hd'
  have nn : isNm d.1 = true := wf.n2 d hd'
  have bb : d.2.1 ∈ S.2.2.map (·.1) := wf.db d hd'
  have pp : d.2.2.1 ≠ [] := wf.c5 d hd'
  refine db_cons (ds_unpE (ds := [enc d.1, enc d.2.1, enc d.2.2.1, enc d.2.2.2]) [2, 3, 4, 5] (de_var (i := 1) rfl) rfl ?_ (pg_tup rfl (pgs_cons (pg_name (i := 2) sc_is_deal.nd rfl (Or.inl rfl)) (pgs_cons (pg_name (i := 3) sc_is_deal.nd rfl (Or.inl rfl)) (pgs_cons (pg_name (i := 4) sc_is_deal.nd rfl (Or.inl rfl)) (pgs_cons (pg_name (i := 5) sc_is_deal.nd rfl (Or.inl rfl)) pgs_nil))))))
  refine db_cons (ds_if (dt_w (dw_or (dt_not (dt_val (c_is_name T (hr.mono (by decide)) (x := d.1) (de_var (i := 2) rfl) nn))) fun _ => (dw_or (dt_nin hr (x := d.2.1) (ys := S.2.2.map (·.1)) (de_var (i := 3) rfl) (de_fe (df_lc0 (xs := S.2.2) (f := enc) (g := fun b => enc b.1) (t := .nm 6) (own := [("one", 6)]) (di_tup (de_ixn 1 (de_var (i := 0) rfl) rfl)) rfl sc_is_deal.nd (blkOk_by (N := ["setup", "thing", "name", "buyer", "parts", "cents", "one", "part"]) (sc := defScope (top 52)) (by decide +kernel)) (by decide) (fun _ _ _ _ _ => (pg_name (i := 6) sc_is_deal.nd rfl (Or.inl rfl))) (fun _ => .nm _ _ _) (fun _ _ _ _ _ x hx => (de_ixn 0 (de_var (i := 6) rfl) rfl)) (small (m := 2) l3))) (sq_map _ _)) fun _ => (dw_or (dt_not (dt_val (c_are_rows T (hr.mono (by decide)) (x := d.2.2.1.map EnT.fs) (y := 8) (z := 2) ((de_var (i := 4) (d := enc d.2.2.1) rfl).cast (rows_enc _)) de_int de_int (by rw [List.length_map]; omega) (by decide) (fun r hr => by obtain ⟨p, _, rfl⟩ := List.mem_map.mp hr; rfl)))) fun _ => (dw_or1 (dt_eq hr (x := d.2.2.1) (y := []) (de_var (i := 4) rfl) (de_tup da_nil))))))) (fun h => ?_) (fun h => ?_))
  · exfalso
    rw [decide_eq_true bb, decide_eq_false pp] at h
    cases h
  refine db_nil ?_
  refine db_cons (ds_if (dt_not (dt_val (de_allF (xs := d.2.2.1) (g := fun _ => true) T.f_all (df_lc0 (xs := d.2.2.1) (f := enc) (t := .nm 7) (own := [("part", 7)]) (di_tup (de_var (i := 4) rfl)) rfl sc_is_deal.nd (blkOk_by (N := ["setup", "thing", "name", "buyer", "parts", "cents", "one", "part"]) (sc := defScope (top 52)) (by decide +kernel)) (by decide) (fun _ _ _ _ _ => (pg_name (i := 7) sc_is_deal.nd rfl (Or.inl rfl))) (fun _ => .nm _ _ _)
    (fun _ _ _ _ _ x hx => by
      refine de_and (c1 := true) (c2 := true) ?_ (fun _ => ?_)
      · refine de_inT (wf.pm d hd' x hx) hr (de_ixn 0 (de_var (i := 7) rfl) rfl) (de_fe ?_) (sq_map _ _)
        exact df_lc0 (xs := S.1) (f := enc) (g := fun s => enc s.1) (t := .nm 6) (own := [("one", 6)]) (di_tup (de_ixn 0 (de_var (i := 0) rfl) rfl)) rfl sc_is_deal.nd (blkOk_by (N := ["setup", "thing", "name", "buyer", "parts", "cents", "one", "part"]) (sc := { kind := .function, names := [(".0", .local), ("part", .local), ("is_whole", .globalImplicit), ("setup", .cell)], isGenerator := false, isCoroutine := false }) (by decide +kernel)) (by decide) (fun _ _ _ _ _ => (pg_name (i := 6) sc_is_deal.nd rfl (Or.inl rfl))) (fun _ => .nm _ _ _) (fun _ _ _ _ _ y hy => (de_ixn 0 (de_var (i := 6) rfl) rfl)) (small (m := 3) l1)
      · exact (de_one (c_is_whole T (hr.mono (by decide)) (x := x.2) (y := 1) (z := 99) (de_ixn 1 (de_var (i := 7) rfl) rfl) de_int de_int (wf.c2 d hd' x hx).1 (wf.c2 d hd' x hx).2))) (small (m := 3) l4))))) (fun h => ?_) (fun h => ?_))
  · exfalso
    rw [all_true] at h
    cases h
  refine db_nil ?_
  exact db_cons (ds_retD (de_and (c_are_unlike T (hr.mono (by decide)) (x := d.2.2.1.map (·.1)) ((de_fe (df_lc0 (xs := d.2.2.1) (f := enc) (g := fun p => enc p.1) (t := .nm 7) (own := [("part", 7)]) (di_tup (de_var (i := 4) rfl)) rfl sc_is_deal.nd (blkOk_by (N := ["setup", "thing", "name", "buyer", "parts", "cents", "one", "part"]) (sc := defScope (top 52)) (by decide +kernel)) (by decide) (fun _ _ _ _ _ => (pg_name (i := 7) sc_is_deal.nd rfl (Or.inl rfl))) (fun _ => .nm _ _ _) (fun _ _ _ _ _ x hx => (de_ixn 0 (de_var (i := 7) rfl) rfl)) (small (m := 3) l4))).cast (by show D.lst _ = D.lst _; rw [List.map_map]; rfl)) (wf.pn d hd') (by rw [List.length_map]; omega)) fun _ => (de_one (c_is_whole T (hr.mono (by decide)) (x := d.2.2.2) (de_var (i := 5) rfl) de_int (de_pow (i := 10) (j := 9) de_int de_int (by decide) (by decide) (by decide)) (wf.c3 d hd').1 (wf.c3 d hd').2))) rfl)
theorem sc_are_supplies : FnScope ["thing", "one"] ["thing"] (defScope (top 53)) := ⟨rfl, rfl, rfl, by decide +kernel, rfl, by decide +kernel, by decide +kernel⟩
theorem cal_are_supplies (T : Txt K mg) : Cal P w K mg base "are_supplies" 2 ["thing"] (spT K J0 (fun a : Setup => [enc a.1]) (fun a => SV a) (fun a d => d = .bl true)) := by
  refine cal_of T.d_are_supplies fun f fd F => fn_ok F sc_are_supplies (fun _ => rfl) fun cdv A outer s H E S hr pre => ?_
  have wf : SV S := pre
  have l1 : S.1.length ≤ 3 := wf.l1
  refine db_cons (ds_if (dt_w (dw_or (dt_not (dt_val (c_are_rows T (hr.mono (by decide)) (x := S.1.map EnT.fs) (y := 8) (z := 3) ((de_var (i := 0) (d := enc S.1) rfl).cast (rows_enc _)) de_int de_int (by rw [List.length_map]; omega) (by decide) (fun r hr => by obtain ⟨p, _, rfl⟩ := List.mem_map.mp hr; rfl)))) fun _ => (dw_or1 (dt_not (dt_val (de_allF (xs := S.1) (g := fun _ => true) T.f_all (df_lc0 (xs := S.1) (f := enc) (t := .nm 1) (own := [("one", 1)]) (di_tup (de_var (i := 0) rfl)) rfl sc_are_supplies.nd (blkOk_by (N := ["thing", "one"]) (sc := defScope (top 53)) (by decide +kernel)) (by decide) (fun _ _ _ _ _ => (pg_name (i := 1) sc_are_supplies.nd rfl (Or.inl rfl))) (fun _ => .nm _ _ _)
    (fun _ _ _ _ _ x hx => (de_and (c1 := true) (c2 := true) (c_is_name T (hr.mono (by decide)) (x := x.1) (de_ixn 0 (de_var (i := 1) rfl) rfl) (wf.n1 x hx).1) fun _ => (de_one (c_is_name T (hr.mono (by decide)) (x := x.2.1) (de_ixn 1 (de_var (i := 1) rfl) rfl) (wf.n1 x hx).2)))) (small (m := 3) l1)))))))) (fun h => ?_) (fun h => ?_))
  · exfalso
    rw [all_true] at h
    cases h
  refine db_nil ?_
  refine db_cons (ds_if (dt_val (de_anyF (xs := S.1) (g := fun s => decide (s.2.1 ∈ [W.bank, .shop])) T.f_any (df_lc0 (xs := S.1) (f := enc) (t := .nm 1) (own := [("one", 1)]) (di_tup (de_var (i := 0) rfl)) rfl sc_are_supplies.nd (blkOk_by (N := ["thing", "one"]) (sc := defScope (top 53)) (by decide +kernel)) (by decide) (fun _ _ _ _ _ => (pg_name (i := 1) sc_are_supplies.nd rfl (Or.inl rfl))) (fun _ => .nm _ _ _)
    (fun _ _ _ _ _ x hx => (de_in hr (x := x.2.1) (ys := [W.bank, .shop]) (de_ixn 1 (de_var (i := 1) rfl) rfl) (de_tup (da_cons (de_gW T.c_BANK) (da_cons (de_gW T.c_SHOP) da_nil))) (.tup _))) (small (m := 3) l1)))) (fun h => ?_) (fun h => ?_))
  · exfalso
    obtain ⟨x, hx, e⟩ := List.any_eq_true.mp h
    have z := of_decide_eq_true e
    have y := wf.hb x hx
    simp at z
    exact z.elim y.1 y.2
  refine db_nil ?_
  refine db_cons (ds_retD (de_and (de_allF (xs := S.1) (g := fun _ => true) T.f_all (df_lc0 (xs := S.1) (f := enc) (t := .nm 1) (own := [("one", 1)]) (di_tup (de_var (i := 0) rfl)) rfl sc_are_supplies.nd (blkOk_by (N := ["thing", "one"]) (sc := defScope (top 53)) (by decide +kernel)) (by decide) (fun _ _ _ _ _ => (pg_name (i := 1) sc_are_supplies.nd rfl (Or.inl rfl))) (fun _ => .nm _ _ _)
    (fun _ _ _ _ _ x hx => (c_is_whole T (hr.mono (by decide)) (x := x.2.2) (y := 0) (z := 99) (de_ixn 2 (de_var (i := 1) rfl) rfl) de_int de_int (wf.c1 x hx).1 (wf.c1 x hx).2)) (small (m := 3) l1))) fun _ => (de_one (c_are_unlike T (hr.mono (by decide)) (x := S.1.map (·.1)) ((de_fe (df_lc0 (xs := S.1) (f := enc) (g := fun s => enc s.1) (t := .nm 1) (own := [("one", 1)]) (di_tup (de_var (i := 0) rfl)) rfl sc_are_supplies.nd (blkOk_by (N := ["thing", "one"]) (sc := defScope (top 53)) (by decide +kernel)) (by decide) (fun _ _ _ _ _ => (pg_name (i := 1) sc_are_supplies.nd rfl (Or.inl rfl))) (fun _ => .nm _ _ _) (fun _ _ _ _ _ x hx => (de_ixn 0 (de_var (i := 1) rfl) rfl)) (small (m := 3) l1))).cast (by show D.lst _ = D.lst _; rw [List.map_map]; rfl)) wf.sn (by rw [List.length_map]; omega)))) ?_)
  rw [all_true]; rfl
theorem sc_are_buyers : FnScope ["thing", "one"] ["thing"] (defScope (top 54)) := ⟨rfl, rfl, rfl, by decide +kernel, rfl, by decide +kernel, by decide +kernel⟩
theorem cal_are_buyers (T : Txt K mg) : Cal P w K mg base "are_buyers" 2 ["thing"] (spT K J0 (fun a : Setup => [enc a.2.2]) (fun a => SV a) (fun a d => d = .bl true)) := by
  refine cal_of T.d_are_buyers fun f fd F => fn_ok F sc_are_buyers (fun _ => rfl) fun cdv A outer s H E S hr pre => ?_
  have wf : SV S := pre
  have l3 : S.2.2.length ≤ 2 := wf.l3
  refine db_cons (ds_if (dt_w (dw_or (dt_not (dt_val (c_are_rows T (hr.mono (by decide)) (x := S.2.2.map EnT.fs) (y := 6) (z := 2) ((de_var (i := 0) (d := enc S.2.2) rfl).cast (rows_enc _)) de_int de_int (by rw [List.length_map]; omega) (by decide) (fun r hr => by obtain ⟨p, _, rfl⟩ := List.mem_map.mp hr; rfl)))) fun _ => (dw_or1 (dt_not (dt_val (de_allF (xs := S.2.2) (g := fun _ => true) T.f_all (df_lc0 (xs := S.2.2) (f := enc) (t := .nm 1) (own := [("one", 1)]) (di_tup (de_var (i := 0) rfl)) rfl sc_are_buyers.nd (blkOk_by (N := ["thing", "one"]) (sc := defScope (top 54)) (by decide +kernel)) (by decide) (fun _ _ _ _ _ => (pg_name (i := 1) sc_are_buyers.nd rfl (Or.inl rfl))) (fun _ => .nm _ _ _)
    (fun _ _ _ _ _ x hx => (c_is_name T (hr.mono (by decide)) (x := x.1) (de_ixn 0 (de_var (i := 1) rfl) rfl) (wf.n3 x hx))) (small (m := 2) l3)))))))) (fun h => ?_) (fun h => ?_))
  · exfalso
    rw [all_true] at h
    cases h
  refine db_nil ?_
  refine db_cons (ds_retD (de_and (de_allF (xs := S.2.2) (g := fun _ => true) T.f_all (df_lc0 (xs := S.2.2) (f := enc) (t := .nm 1) (own := [("one", 1)]) (di_tup (de_var (i := 0) rfl)) rfl sc_are_buyers.nd (blkOk_by (N := ["thing", "one"]) (sc := defScope (top 54)) (by decide +kernel)) (by decide) (fun _ _ _ _ _ => (pg_name (i := 1) sc_are_buyers.nd rfl (Or.inl rfl))) (fun _ => .nm _ _ _)
    (fun _ _ _ _ _ x hx => (c_is_whole T (hr.mono (by decide)) (x := x.2) (y := 0) (de_ixn 1 (de_var (i := 1) rfl) rfl) de_int (de_pow (i := 10) (j := 9) de_int de_int (by decide) (by decide) (by decide)) (wf.c4 x hx).1 (wf.c4 x hx).2)) (small (m := 2) l3))) fun _ => (de_one (c_are_unlike T (hr.mono (by decide)) (x := S.2.2.map (·.1)) ((de_fe (df_lc0 (xs := S.2.2) (f := enc) (g := fun s => enc s.1) (t := .nm 1) (own := [("one", 1)]) (di_tup (de_var (i := 0) rfl)) rfl sc_are_buyers.nd (blkOk_by (N := ["thing", "one"]) (sc := defScope (top 54)) (by decide +kernel)) (by decide) (fun _ _ _ _ _ => (pg_name (i := 1) sc_are_buyers.nd rfl (Or.inl rfl))) (fun _ => .nm _ _ _) (fun _ _ _ _ _ x hx => (de_ixn 0 (de_var (i := 1) rfl) rfl)) (small (m := 2) l3))).cast (by show D.lst _ = D.lst _; rw [List.map_map]; rfl)) wf.bn (by rw [List.length_map]; omega)))) ?_)
  rw [all_true]; rfl
end
section
variable {X : Cx} {J : Jn} {env : List SL} {a b c d e f : Expr} {pos p : Pos}
theorem c_is_deal (T : Txt X.K X.mg) (hr : Room 2 X.A) {x : Setup} {y : Deal} (ha : DE X J env a (.tup [enc x.1, enc x.2.2])) (hb : DE X J env b (enc y)) (h1 : SV x) (h2 : y ∈ x.2.1) (hg : Gl X "is_deal" := by rfl) (s0 : starEach [a, b] X.env = (false, eval a X.env) :: starEach [b] X.env := by rfl) (s1 : starEach [b] X.env = (false, eval b X.env) :: starEach [] X.env := by rfl) (hpl : (backTo pos (starEach [b] X.env)).any (·.1) = false := by rfl) :
    DE X J env (.Call (.Name "is_deal" p) [a, b] [] pos) (.bl true) := cal_de (cal_is_deal T) hr (x, y) (da_cons ha (da_cons hb da_nil s1) s0) ⟨h1, h2⟩ hg s0 hpl
theorem c_are_supplies (T : Txt X.K X.mg) (hr : Room 2 X.A) {x : Setup} (ha : DE X J env a (enc x.1)) (h1 : SV x) (hg : Gl X "are_supplies" := by rfl) (s0 : starEach [a] X.env = (false, eval a X.env) :: starEach [] X.env := by rfl) (hpl : (backTo pos (starEach [] X.env)).any (·.1) = false := by rfl) :
    DE X J env (.Call (.Name "are_supplies" p) [a] [] pos) (.bl true) := cal_de (cal_are_supplies T) hr x (da_cons ha da_nil s0) h1 hg s0 hpl
theorem c_are_buyers (T : Txt X.K X.mg) (hr : Room 2 X.A) {x : Setup} (ha : DE X J env a (enc x.2.2)) (h1 : SV x) (hg : Gl X "are_buyers" := by rfl) (s0 : starEach [a] X.env = (false, eval a X.env) :: starEach [] X.env := by rfl) (hpl : (backTo pos (starEach [] X.env)).any (·.1) = false := by rfl) :
    DE X J env (.Call (.Name "are_buyers" p) [a] [] pos) (.bl true) := cal_de (cal_are_buyers T) hr x (da_cons ha da_nil s0) h1 hg s0 hpl
end
section
variable {P : Program} {w : World} {K : PySem.W.Frag} {mg : Str → Option Value} {base : Heap}
theorem sc_need_setup : FnScope ["supplies", "deals", "buyers", "deal"] ["supplies", "deals", "buyers"] (defScope (top 55)) := ⟨rfl, rfl, rfl, by decide +kernel, rfl, by decide +kernel, by decide +kernel⟩
theorem cal_need_setup (T : Txt K mg) : Cal P w K mg base "need_setup" 3 ["supplies", "deals", "buyers"] (spT K J0 (fun a : Setup => [enc a.1, enc a.2.1, enc a.2.2]) (fun a => SV a) (fun a d => d = .non)) := by
  refine cal_of T.d_need_setup fun f fd F => fn_ok F sc_need_setup (fun _ => rfl) fun cdv A outer s H E S hr pre => ?_
  have wf : SV S := pre
  have l2 : S.2.1.length ≤ 3 := wf.l2
  refine db_cons (ds_if (dt_w (dw_or (dt_not (dt_val (c_are_supplies T (hr.mono (by decide)) (x := S) (de_var (i := 0) rfl) wf))) fun _ => (dw_or (dt_not (dt_val (c_are_buyers T (hr.mono (by decide)) (x := S) (de_var (i := 2) rfl) wf))) fun _ => (dw_or1 (dt_not (dt_val (c_are_rows T (hr.mono (by decide)) (x := S.2.1.map EnT.fs) (y := 6) (z := 4) ((de_var (i := 1) (d := enc S.2.1) rfl).cast (rows_enc _)) de_int de_int (by rw [List.length_map]; omega) (by decide) (fun r hr => by obtain ⟨p, _, rfl⟩ := List.mem_map.mp hr; rfl)))))))) (fun h => ?_) (fun h => ?_))
  · exact absurd h (by decide)
  refine db_nil ?_
  refine db_cons (ds_if (dt_w (dw_or (dt_not (dt_val (de_allF (xs := S.2.1) (g := fun _ => true) T.f_all (df_lc0 (xs := S.2.1) (f := enc) (t := .nm 3) (own := [("deal", 3)]) (di_tup (de_var (i := 1) rfl)) rfl sc_need_setup.nd (blkOk_by (N := ["supplies", "deals", "buyers", "deal"]) (sc := defScope (top 55)) (by decide +kernel)) (by decide) (fun _ _ _ _ _ => (pg_name (i := 3) sc_need_setup.nd rfl (Or.inl rfl))) (fun _ => .nm _ _ _)
    (fun _ _ _ _ _ x hx => (c_is_deal T (hr.mono (by decide)) (x := S) (y := x) (de_tup (da_cons (de_var (i := 0) rfl) (da_cons (de_var (i := 2) rfl) da_nil))) (de_var (i := 3) rfl) wf hx)) (small (m := 3) l2))))) fun _ => (dw_or1 (dt_not (dt_val (c_are_unlike T (hr.mono (by decide)) (x := S.2.1.map (·.1)) ((de_fe (df_lc0 (xs := S.2.1) (f := enc) (g := fun s => enc s.1) (t := .nm 3) (own := [("deal", 3)]) (di_tup (de_var (i := 1) rfl)) rfl sc_need_setup.nd (blkOk_by (N := ["supplies", "deals", "buyers", "deal"]) (sc := defScope (top 55)) (by decide +kernel)) (by decide) (fun _ _ _ _ _ => (pg_name (i := 3) sc_need_setup.nd rfl (Or.inl rfl))) (fun _ => .nm _ _ _) (fun _ _ _ _ _ x hx => (de_ixn 0 (de_var (i := 3) rfl) rfl)) (small (m := 3) l2))).cast (by show D.lst _ = D.lst _; rw [List.map_map]; rfl)) wf.dn (by rw [List.length_map]; omega))))))) (fun h => ?_) (fun h => ?_))
  · exfalso
    rw [all_true] at h
    cases h
  exact db_nil (db_nil rfl)
end
section
variable {X : Cx} {J : Jn} {env : List SL} {a b c d e f : Expr} {pos p : Pos}
theorem c_need_setup (T : Txt X.K X.mg) (hr : Room 3 X.A) {x : Setup} (ha : DE X J env a (enc x.1)) (hb : DE X J env b (enc x.2.1)) (hc : DE X J env c (enc x.2.2)) (h1 : SV x) (hg : Gl X "need_setup" := by rfl) (s0 : starEach [a, b, c] X.env = (false, eval a X.env) :: starEach [b, c] X.env := by rfl) (s1 : starEach [b, c] X.env = (false, eval b X.env) :: starEach [c] X.env := by rfl) (s2 : starEach [c] X.env = (false, eval c X.env) :: starEach [] X.env := by rfl) (hpl : (backTo pos (starEach [b, c] X.env)).any (·.1) = false := by rfl) :
    DE X J env (.Call (.Name "need_setup" p) [a, b, c] [] pos) (.non) := cal_de (cal_need_setup T) hr x (da_cons ha (da_cons hb (da_cons hc da_nil s2) s1) s0) h1 hg s0 hpl
end
end Sh
/-! Sh16: lists repeated, joined, searched; is None; argument lists with an open end. -/
namespace Sh
open PySem PySem.Spec PyProof.Rows L2
open En (enc)
section
variable {X : Cx} {J : Jn} {env : List SL} {a b c e o : Expr} {es : List Expr} {pos p apos cpos : Pos} {k : Nat} {d x y : D}
theorem up_hid {J : Jn} {G H G1 H1 : Hp} (u : Up J G H G1 H1) {q : Addr} (h : H1 q = none) : H q = none := by
  cases z : H q with
  | none => rfl
  | some o => exact absurd h (u.fr q (by rw [z]; simp))
theorem df_catL {xs ys : List D} (ha : DE X J env a (.lst xs)) (hb : DE X J env b (.lst ys)) (hl : xs.length + ys.length ≤ sizeLine) : DF X J env (.BinOp a .Add b pos) (xs ++ ys) := fun G0 H0 σ H G Q s q => by
  refine wp_of (pe_op op_cat pe_wp pe_wp) (ha G0 H0 σ H G _ s fun v1 d1 G1 H1 u1 r1 p1 => hb G0 H0 σ H1 G1 _ (s.ext u1) fun v2 d2 G2 H2 u2 r2 p2 => ?_)
  subst p1 p2
  obtain ⟨a1, zs, rfl, g1, al1⟩ := r1.lst_inv
  obtain ⟨a2, ws, rfl, g2, al2⟩ := r2.lst_inv
  have s2 := (s.ext u1).ext u2
  have b2 := s2.bs
  have ut := u1.trans u2
  refine ⟨_, _, zs, ws, rfl, rfl, b2.gh _ _ (u2.g _ _ g1), b2.gh _ _ g2, by rw [al1.len, al2.len]; exact hl, fun q' fr => ?_⟩
  exact q q' _ _ G2 _ (ut.trans (Up.newH b2 fr)) (up_hid ut fr) (b2.gh.free fr) upd_same ((al1.mono u2.g).append al2) rfl
theorem isAll_rep {K : PySem.W.Frag} {G : Hp} {vs : List V} {ds : List D} (h : IsAll K G vs ds) : ∀ n, IsAll K G (List.replicate n vs).flatten (List.replicate n ds).flatten
  | 0 => .nil
  | n + 1 => by rw [List.replicate_succ, List.flatten_cons, List.replicate_succ, List.flatten_cons]; exact h.append (isAll_rep h n)
theorem df_rep {xs : List D} {n : Nat} (ha : DE X J env a (.lst xs)) (hb : DE X J env b (.int (n : Int))) (hn : n ≤ 1000) (hl : xs.length ≤ 1000) : DF X J env (.BinOp a .Mult b pos) (List.replicate n xs).flatten := fun G0 H0 σ H G Q s q => by
  refine wp_of (pe_op op_rep pe_wp pe_wp) (ha G0 H0 σ H G _ s fun v1 d1 G1 H1 u1 r1 p1 => hb G0 H0 σ H1 G1 _ (s.ext u1) fun v2 d2 G2 H2 u2 r2 p2 => ?_)
  subst p1 p2
  obtain ⟨a1, zs, rfl, g1, al1⟩ := r1.lst_inv
  have s2 := (s.ext u1).ext u2
  have b2 := s2.bs
  have ut := u1.trans u2
  have m : zs.length * n ≤ 1000 * 1000 := Nat.mul_le_mul (by rw [al1.len]; exact hl) hn
  refine ⟨_, _, zs, rfl, r2.int_inv, b2.gh _ _ (u2.g _ _ g1), by omega, by omega, ?_, fun q' fr => ?_⟩
  · show zs.length * n ≤ sizeLine
    rw [sizeLine_eq]; omega
  · exact q q' _ _ G2 _ (ut.trans (Up.newH b2 fr)) (up_hid ut fr) (b2.gh.free fr) upd_same (isAll_rep (al1.mono u2.g) n) rfl
def isNonD : D → Bool
  | .non => true
  | _ => false
theorem dt_isN {q : Pos} {kk} (ha : DE X J env a d) (hd : d = .non ∨ ∃ z, d = .str z) (hm : behindInMarks .Is (.Constant .none kk q) = false := by rfl) : DT X J env (.Compare a [.Is] [.Constant .none kk q] pos) (isNonD d) :=
  dt_cmp (x := d) (y := .non) op_isN (fun v u d1 e G H Q b r1 r2 p1 p2 qq => by
    subst p1 p2
    refine ⟨r2.non_inv, ?_⟩
    rcases hd with z | ⟨z, e⟩
    · subst z
      rw [r1.non_inv]
      exact qq _ _ G H (Up.refl b) (.bl _) rfl
    · subst e
      rw [r1.str_inv]
      exact qq _ _ G H (Up.refl b) (.bl _) rfl) ha de_non hm
/-- xs.index(x), words -/
theorem de_index {xs : List W} {x : W} (ha : DE X J env o (encL xs)) (hb : DE X J env e (enc x)) (hx : x ∈ xs) (hbase : attributeBase o "index" X.env (eval o X.env) = eval o X.env := by rfl)
    (hfew : ((backTo cpos (starEach [e] X.env)).all (fun x => !x.1) && (backToKw cpos (keywordEach [] X.env)).all (fun x => x.1.isSome) && decide ([e].length + ([] : List Keyword).length + (if ([] : List Keyword).isEmpty then 0 else 1) < 30)) = true := by rfl)
    (hline : (apos.endLine == cpos.line) = true := by rfl) (hs : starEach [e] X.env = (false, eval e X.env) :: starEach [] X.env := by rfl) (hplain : (backTo cpos (starEach [] X.env)).any (·.1) = false := by rfl) :
    DE X J env (.Call (.Attribute o "index" apos) [e] [] cpos) (.int (xs.idxOf x : Nat)) := fun G0 H0 σ H G Q s q => by
  refine wp_of (pe_bm PySem.F.plainAttrs_list PySem.F.slot_list_index (by rfl) mt_index pe_wp (pa_cons pe_wp pa_nil hs) hbase hfew hline hs hplain) ?_
  refine ha G0 H0 σ H G _ s fun v1 d1 G1 H1 u1 r1 p1 => ?_
  subst p1
  obtain ⟨l, vs, rfl, gl, al⟩ := r1.lst_inv
  have s1 := s.ext u1
  have al2 : IsAll X.K G1 vs ((xs.map W.s).map D.str) := by rw [List.map_map]; exact al
  have ev : vs = (xs.map W.s).map V.str := by
    have go : ∀ (bs : List Str) (vs : List V), IsAll X.K G1 vs (bs.map D.str) → vs = bs.map V.str := by
      intro bs
      induction bs with
      | nil => intro vs h; cases h; rfl
      | cons z r ih => intro vs h; cases h with | cons r1 t => rw [ih _ t, r1.str_inv]; rfl
    exact go _ _ al2
  subst ev
  refine ⟨.inl ⟨rfl, _, .inl (.inl (s1.bs.gh _ _ gl))⟩, ?_⟩
  refine hb G0 H0 σ H1 G1 _ s1 fun v2 d2 G2 H2 u2 r2 p2 => ?_
  subst p2
  have s2 := s1.ext u2
  have il : xs.idxOf x < xs.length := List.idxOf_lt_length_iff.mpr hx
  have vi : ∀ m, m < xs.length → ∃ w, xs[m]? = some w ∧ ((xs.map W.s).map V.str)[m]? = some (.str w.s) := fun m hm => ⟨xs[m], List.getElem?_eq_getElem hm, by rw [List.getElem?_map, List.getElem?_map, List.getElem?_eq_getElem hm]; rfl⟩
  refine ⟨l, _, .str x.s, xs.idxOf x, .str x.s, rfl, by rw [r2.str_inv], .inl (.inl (s2.bs.gh _ _ (u2.g _ _ gl))), rfl, ?_, ?_, ?_, fun m z hm hz => ?_, ?_⟩
  · rw [List.all_eq_true]
    intro v hv
    rw [List.map_map] at hv
    obtain ⟨w, _, rfl⟩ := List.mem_map.mp hv
    rfl
  · rw [List.getElem?_map, List.getElem?_map, List.getElem?_eq_getElem il, List.getElem_idxOf il]; rfl
  · show (x.s == x.s) = true
    simp
  · obtain ⟨w, hw, e2⟩ := vi m (by omega)
    rw [e2] at hz
    cases hz
    have hlt : m < xs.length := by omega
    have ne : xs[m] ≠ x := by
      intro e3
      have := List.not_of_lt_findIdx (p := (· == x)) (xs := xs) (i := m) hm
      simp [e3] at this
    have ew : w = xs[m] := by
      rw [List.getElem?_eq_getElem hlt] at hw
      exact (Option.some.inj hw).symm
    show (w.s == x.s) = false
    rw [beq_eq_false_iff_ne]
    intro e3
    exact ne (by rw [← ew]; exact W.s_inj e3)
  · exact q _ _ G2 H2 (u1.trans u2) (.int _) rfl
theorem ap_dc {Pt : List D → Prop} (ha : DE X J env e d) (hr : AP' X J env es Pt) (hs : starEach (e :: es) X.env = (false, eval e X.env) :: starEach es X.env := by rfl) : AP' X J env (e :: es) (fun l => ∃ ds, l = d :: ds ∧ Pt ds) := ap_cons ha hr (fun x ds e1 e2 => ⟨ds, by rw [e1], e2⟩) hs
theorem ap_ec {P : D → Prop} {Pt : List D → Prop} (ha : EP' X J env e P) (hr : AP' X J env es Pt) (hs : starEach (e :: es) X.env = (false, eval e X.env) :: starEach es X.env := by rfl) : AP' X J env (e :: es) (fun l => ∃ d ds, l = d :: ds ∧ P d ∧ Pt ds) := ap_cons ha hr (fun x ds e1 e2 => ⟨x, ds, rfl, e1, e2⟩) hs
theorem AP'.imp {P P1 : List D → Prop} (h : AP' X J env es P) (k : ∀ d, P d → P1 d) : AP' X J env es P1 := fun G0 H0 σ H G Q s q => h G0 H0 σ H G Q s fun v d G1 H1 u r p => q v d G1 H1 u r (k d p)
theorem DS.imp {st : Stmt} {Φ Φ' : List SL → Prop} {Ψ : D → Prop} (h : DS X J env st Φ Ψ) (k : ∀ e, Φ e → Φ' e) : DS X J env st Φ' Ψ := fun G0 H0 σ H G Dn s q r => h G0 H0 σ H G Dn s (fun e σ1 H1 G1 p t => q e σ1 H1 G1 (k e p) t) r
/-- what stands between two statements -/
theorem db_consM {st : Stmt} {sts : List Stmt} {Φ Φ1 : List SL → Prop} {Ψ : D → Prop} (h : DS X J env st Φ1 Ψ) (k : ∀ env1, Φ1 env1 → DB X J env1 sts Φ Ψ) : DB X J env (st :: sts) Φ Ψ := db_cons (h.imp k)
theorem cut_take {α : Type} (xs : List α) (n : Nat) : cutD xs none (some (n : Int)) = xs.take n := by
  unfold cutD
  rw [HT.sIx_none, HT.sIx_nat, Nat.sub_zero, List.drop_zero]
  rcases Nat.le_total n xs.length with h | h
  · rw [Nat.min_eq_left h]
  · rw [Nat.min_eq_right h, List.take_length, List.take_of_length_le h]
theorem cut_drop {α : Type} (xs : List α) (n : Nat) : cutD xs (some (n : Int)) none = xs.drop n := by
  unfold cutD
  rw [HT.sIx_none, HT.sIx_nat]
  rcases Nat.le_total n xs.length with h | h
  · rw [Nat.min_eq_left h, List.take_of_length_le (by rw [List.length_drop]; exact Nat.le_refl _)]
  · rw [Nat.min_eq_right h, Nat.sub_self, List.take_zero, List.drop_of_length_le h]
theorem startE_lit {N : List Str} {ds : List D} (k : Nat) (h : N.length - ds.length = k) : startE N ds = ds.map SL.d ++ List.replicate k SL.no := by unfold startE; rw [h]
end
end Sh
/-! A10: first_state, with_letters, began, ticked. -/
namespace Sh
open PySem PySem.Spec PyProof.Rows L2
open En (enc)
def firstState (S : Setup) : State := ([], [], List.replicate (housesIn S).length [], [], [])
def LetRel (ls more ys : List Let) : Prop := ys.Nodup ∧ ∀ y, y ∈ ys ↔ y ∈ ls ++ more
def beganS (st : State) (w d : W) : State := (st.1 ++ [(w, d)], st.2)
/-- what the shop may do of itself -/
def MayBegin (S : Setup) (st : State) (w d : W) : Prop := d ∈ S.2.1.map (·.1) ∧ ((w = .beg ∧ standOf st.1 d = .em) ∨ (w = .giveup ∧ standOf st.1 d = .begun) ∨ (w = .ret ∧ standOf st.1 d = .ended ∧ (W.go, d) ∈ st.1))
def begW : W → W
  | .beg => .begun
  | .giveup => .drop
  | _ => .ret
def letsAt (S : Setup) (log : Log) (heard : List Hrd) (d : W) : List Let := (asksOf S log heard d).map fun a => (a.1, a.2.1, a.2.2, .shop)
def letsOf (S : Setup) (log : Log) (heard : List Hrd) (ds : List Deal) : List Let := ds.flatMap fun d => letsAt S log heard d.1
def TickRel (S : Setup) (st st' : State) : Prop := ∃ ls, LetRel st.2.2.2.2 (letsOf S st.1 st.2.1 S.2.1) ls ∧ st' = (st.1, st.2.1, st.2.2.1, st.2.2.2.1, ls)
theorem asksOf_len {S : Setup} (wf : SW S) (log : Log) (heard : List Hrd) (d : W) : (asksOf S log heard d).length ≤ 4 := by
  unfold asksOf
  split
  · exact Nat.le_trans (asksF_len _ _ _ _ _) (partners_len wf d)
  · exact Nat.zero_le _
theorem letsOf_len {S : Setup} (wf : SW S) (log : Log) (heard : List Hrd) : ∀ ds : List Deal, (letsOf S log heard ds).length ≤ 4 * ds.length
  | [] => Nat.le_refl _
  | d :: ds => by
    have z := letsOf_len wf log heard ds
    have y := asksOf_len wf log heard d.1
    unfold letsOf at z ⊢
    rw [List.flatMap_cons, List.length_append, List.length_cons]
    have e : (letsAt S log heard d.1).length = (asksOf S log heard d.1).length := by unfold letsAt; rw [List.length_map]
    omega
section
variable {P : Program} {w : World} {K : PySem.W.Frag} {mg : Str → Option Value} {base : Heap}
theorem sc_first_state : FnScope ["setup"] ["setup"] (defScope (top 57)) := ⟨rfl, rfl, rfl, by decide +kernel, rfl, by decide +kernel, by decide +kernel⟩
theorem cal_first_state (T : Txt K mg) : Cal P w K mg base "first_state" 2 ["setup"] (spT K J0 (fun a : Setup => [enc a]) (fun a => SW a) (fun a d => d = enc (firstState a))) := by
  refine cal_of T.d_first_state fun f fd F => fn_ok F sc_first_state (fun _ => rfl) fun cdv A outer s H E S hr pre => ?_
  have wf : SW S := pre
  have l1 : S.1.length ≤ 3 := wf.l1
  have hh : (housesIn S).length ≤ 2 := wf.hh
  refine db_cons (ds_retD (de_tup (da_cons (de_tup da_nil) (da_cons (de_tup da_nil) (da_cons (de_tuple T.f_tuple (de_fe (df_rep (n := (housesIn S).length) (de_fe (df_lst (da_cons (de_tup da_nil) da_nil))) ((de_len T.f_len (c_houses_in T (hr.mono (by decide)) (x := S) (de_var (i := 0) rfl) (by omega)) (.lst _)).cast (by rw [List.length_map])) (by omega) (by decide)))) (da_cons (de_tup da_nil) (da_cons (de_tup da_nil) da_nil)))))) ?_)
  show D.tup _ = D.tup _
  have e : ∀ n, (List.replicate n [D.tup []]).flatten = (List.replicate n ([] : Log)).map enc := by
    intro n
    induction n with
    | zero => rfl
    | succ n ih => rw [List.replicate_succ, List.flatten_cons, ih, List.replicate_succ, List.map_cons]; rfl
  rw [e]
  rfl
theorem sc_with_letters : FnScope ["letters", "more"] ["letters", "more"] (defScope (top 58)) := ⟨rfl, rfl, rfl, by decide +kernel, rfl, by decide +kernel, by decide +kernel⟩
theorem cal_with_letters (T : Txt K mg) : Cal P w K mg base "with_letters" 1 ["letters", "more"] (spT K J0 (fun a : List Let × List Let => [enc a.1, encL a.2]) (fun a => a.1.length + a.2.length < 64) (fun a d => ∃ ys, LetRel a.1 a.2 ys ∧ d = enc ys)) := by
  refine cal_of T.d_with_letters fun f fd F => fn_ok F sc_with_letters (fun _ => rfl) fun cdv A outer s H E a hr pre => ?_
  obtain ⟨ls, more⟩ := a
  have hl : ls.length + more.length < 64 := pre
  have hu := hu65 hr
  refine db_cons (ds_ret (ep_sortset (xs := ls ++ more) hr T.f_tuple T.f_sorted T.f_set ((de_fe (df_lst (da_star (xs := ls.map enc) (de_var (i := 0) rfl) (.tup _) (da_star (xs := more.map enc) (de_var (i := 1) rfl) (.lst _) da_nil)) (by rw [List.length_append, List.length_append, List.length_map, List.length_map]; show ls.length + (more.length + 0) ≤ 1000; omega))).cast (by show D.lst _ = D.lst _; rw [List.map_append, List.append_nil])) (by rw [List.length_append]; exact hl) (by omega)) (fun d hd => ?_))
  obtain ⟨ys, e, h1, h2⟩ := hd
  exact ⟨ys, ⟨h1, h2⟩, e⟩
theorem sc_began : FnScope ["setup", "state", "word", "deal", "log", "stage", "one"] ["setup", "state", "word", "deal"] (defScope (top 59)) := ⟨rfl, rfl, rfl, by decide +kernel, rfl, by decide +kernel, by decide +kernel⟩
theorem cal_began (T : Txt K mg) : Cal P w K mg base "began" 2 ["setup", "state", "word", "deal"] (spT K J0 (fun a : Setup × State × W × W => [enc a.1, enc a.2.1, enc a.2.2.1, enc a.2.2.2]) (fun a => SW a.1 ∧ MayBegin a.1 a.2.1 a.2.2.1 a.2.2.2 ∧ a.2.1.1.length ≤ 1000) (fun a d => d = enc (beganS a.2.1 (begW a.2.2.1) a.2.2.2))) := by
  refine cal_of T.d_began fun f fd F => fn_ok F sc_began (fun _ => rfl) fun cdv A outer s H E a hr pre => ?_
  obtain ⟨S, st, wo, dl⟩ := a
  obtain ⟨wf, mb, hz⟩ := pre
  have mb' : MayBegin S st wo dl := mb
  have hz' : st.1.length ≤ 1000 := hz
  have l2 : S.2.1.length ≤ 3 := wf.l2
  obtain ⟨hd', cs⟩ := mb'
  obtain ⟨log, heard, logs, bank, letters⟩ := st
  have hcat : (log.map enc).length + [enc (W.begun, dl)].length ≤ sizeLine := by rw [List.length_map]; exact Nat.le_of_lt (small (m := 1001) (by show log.length + 1 ≤ 1001; have := hz'; simp at this; omega))
  have big : ∀ x : W, ([enc (log ++ [(x, dl)])] : List D).length + [enc heard, enc logs, enc bank, enc letters].length ≤ sizeLine := fun x => Nat.le_of_lt (small (m := 10) (by show 5 ≤ 10; decide))
  refine db_cons (ds_par (i := 4) (j := 5) (P := fun y => y = [.d (enc log), .d (enc (standOf log dl))]) (das_cons (se_d (de_ixn 0 (de_var (i := 1) rfl) rfl)) (das_cons (se_d (c_stage_of T (hr.mono (by decide)) (x := log) (y := dl) (de_ixn 0 (de_var (i := 1) rfl) rfl) (de_var (i := 3) rfl))) as_nil)) sc_began.nd (fun xs h => ⟨_, _, h, ?_⟩))
  refine db_cons (ds_if (dt_nin hr (x := dl) (ys := S.2.1.map (·.1)) (de_var (i := 3) rfl) (de_fe (df_lc0 (xs := S.2.1) (f := enc) (g := fun s => enc s.1) (t := .nm 6) (own := [("one", 6)]) (di_tup (de_ixn 1 (de_var (i := 0) rfl) rfl)) rfl sc_began.nd (blkOk_by (N := ["setup", "state", "word", "deal", "log", "stage", "one"]) (sc := defScope (top 59)) (by decide +kernel)) (by decide) (fun _ _ _ _ _ => (pg_name (i := 6) sc_began.nd rfl (Or.inl rfl))) (fun _ => .nm _ _ _) (fun _ _ _ _ _ x hx => (de_ixn 0 (de_var (i := 6) rfl) rfl)) (small (m := 3) l2))) (sq_map _ _)) (fun h => ?_) (fun h => ?_))
  · exfalso
    rw [decide_eq_true hd'] at h
    cases h
  refine db_nil ?_
  refine db_cons (ds_if (dt_w (dw_and (dt_eq hr (x := wo) (y := W.beg) (de_var (i := 2) rfl) (de_W .beg)) fun _ => (dw_and1 (dt_eq hr (x := standOf log dl) (y := W.em) (de_var (i := 5) rfl) (de_W .em))))) (fun h => ?_) (fun h => ?_))
  · rw [Bool.and_eq_true, decide_eq_true_eq, decide_eq_true_eq] at h
    refine db_cons (ds_retD (de_catT (xs := [enc (log ++ [(W.begun, dl)])]) (ys := [enc heard, enc logs, enc bank, enc letters]) (de_tup (da_cons ((de_catT (xs := log.map enc) (ys := [enc (W.begun, dl)]) (de_var (i := 4) rfl) (de_tup (da_cons (de_tup (da_cons (de_gW T.c_BEGUN) (da_cons (de_var (i := 3) rfl) da_nil))) da_nil)) hcat).cast (enc_snoc _ _)) da_nil)) (de_slT (ds := [enc log, enc heard, enc logs, enc bank, enc letters]) (de_var (i := 1) rfl) (po1 (i := 1) de_int) po0) (big _)) ?_)
    rw [h.1]; rfl
  rw [Bool.and_eq_false_iff, decide_eq_false_iff_not, decide_eq_false_iff_not] at h
  refine db_nil ?_
  refine db_cons (ds_if (dt_w (dw_and (dt_eq hr (x := wo) (y := W.giveup) (de_var (i := 2) rfl) (de_W .giveup)) fun _ => (dw_and1 (dt_eq hr (x := standOf log dl) (y := W.begun) (de_var (i := 5) rfl) (de_gW T.c_BEGUN))))) (fun h2 => ?_) (fun h2 => ?_))
  · rw [Bool.and_eq_true, decide_eq_true_eq, decide_eq_true_eq] at h2
    refine db_cons (ds_retD (de_catT (xs := [enc (log ++ [(W.drop, dl)])]) (ys := [enc heard, enc logs, enc bank, enc letters]) (de_tup (da_cons ((de_catT (xs := log.map enc) (ys := [enc (W.drop, dl)]) (de_var (i := 4) rfl) (de_tup (da_cons (de_tup (da_cons (de_gW T.c_DROP) (da_cons (de_var (i := 3) rfl) da_nil))) da_nil)) hcat).cast (enc_snoc _ _)) da_nil)) (de_slT (ds := [enc log, enc heard, enc logs, enc bank, enc letters]) (de_var (i := 1) rfl) (po1 (i := 1) de_int) po0) (big _)) ?_)
    rw [h2.1]; rfl
  rw [Bool.and_eq_false_iff, decide_eq_false_iff_not, decide_eq_false_iff_not] at h2
  refine db_nil ?_
  refine db_cons (ds_if (dt_w (dw_and (dt_eq hr (x := wo) (y := W.ret) (de_var (i := 2) rfl) (de_W .ret)) fun _ => (dw_and (dt_eq hr (x := standOf log dl) (y := W.ended) (de_var (i := 5) rfl) (de_gW T.c_ENDED)) fun _ => (dw_and1 (dt_val (c_went T (hr.mono (by decide)) (x := log) (y := dl) (de_var (i := 4) rfl) (de_var (i := 3) rfl))))))) (fun h3 => ?_) (fun h3 => ?_))
  · rw [Bool.and_eq_true, Bool.and_eq_true, decide_eq_true_eq, decide_eq_true_eq] at h3
    refine db_cons (ds_retD (de_catT (xs := [enc (log ++ [(W.ret, dl)])]) (ys := [enc heard, enc logs, enc bank, enc letters]) (de_tup (da_cons ((de_catT (xs := log.map enc) (ys := [enc (W.ret, dl)]) (de_var (i := 4) rfl) (de_tup (da_cons (de_tup (da_cons (de_gW T.c_RETURN) (da_cons (de_var (i := 3) rfl) da_nil))) da_nil)) hcat).cast (enc_snoc _ _)) da_nil)) (de_slT (ds := [enc log, enc heard, enc logs, enc bank, enc letters]) (de_var (i := 1) rfl) (po1 (i := 1) de_int) po0) (big _)) ?_)
    rw [h3.1]; rfl
  exfalso
  rw [Bool.and_eq_false_iff, Bool.and_eq_false_iff, decide_eq_false_iff_not, decide_eq_false_iff_not, decide_eq_false_iff_not] at h3
  rcases cs with ⟨e1, e2⟩ | ⟨e1, e2⟩ | ⟨e1, e2, e3⟩
  · exact h.elim (fun z => z e1) fun z => z e2
  · exact h2.elim (fun z => z e1) fun z => z e2
  · exact h3.elim (fun z => z e1) fun z => z.elim (fun y => y e2) fun y => y e3
end
section
variable {X : Cx} {J : Jn} {env : List SL} {a b c d e f : Expr} {pos p : Pos}
theorem c_first_state (T : Txt X.K X.mg) (hr : Room 2 X.A) {x : Setup} (ha : DE X J env a (enc x)) (h1 : SW x) (hg : Gl X "first_state" := by rfl) (s0 : starEach [a] X.env = (false, eval a X.env) :: starEach [] X.env := by rfl) (hpl : (backTo pos (starEach [] X.env)).any (·.1) = false := by rfl) :
    DE X J env (.Call (.Name "first_state" p) [a] [] pos) (enc (firstState x)) := cal_de (cal_first_state T) hr x (da_cons ha da_nil s0) h1 hg s0 hpl
theorem c_with_letters (T : Txt X.K X.mg) (hr : Room 1 X.A) {x : List Let} {y : List Let} (ha : DE X J env a (enc x)) (hb : DE X J env b (encL y)) (h1 : x.length + y.length < 64) (hg : Gl X "with_letters" := by rfl) (s0 : starEach [a, b] X.env = (false, eval a X.env) :: starEach [b] X.env := by rfl) (s1 : starEach [b] X.env = (false, eval b X.env) :: starEach [] X.env := by rfl) (hpl : (backTo pos (starEach [b] X.env)).any (·.1) = false := by rfl) :
    EP' X J env (.Call (.Name "with_letters" p) [a, b] [] pos) (fun q => ∃ ys, LetRel x y ys ∧ q = enc ys) := cal_ee (cal_with_letters T) hr (x, y) (da_cons ha (da_cons hb da_nil s1) s0) h1 hg s0 hpl
theorem c_began (T : Txt X.K X.mg) (hr : Room 2 X.A) {x : Setup} {y : State} {u : W} {v : W} (ha : DE X J env a (enc x)) (hb : DE X J env b (enc y)) (hc : DE X J env c (enc u)) (hd : DE X J env d (enc v)) (h1 : SW x) (h2 : MayBegin x y u v) (h3 : y.1.length ≤ 1000) (hg : Gl X "began" := by rfl) (s0 : starEach [a, b, c, d] X.env = (false, eval a X.env) :: starEach [b, c, d] X.env := by rfl) (s1 : starEach [b, c, d] X.env = (false, eval b X.env) :: starEach [c, d] X.env := by rfl) (s2 : starEach [c, d] X.env = (false, eval c X.env) :: starEach [d] X.env := by rfl) (s3 : starEach [d] X.env = (false, eval d X.env) :: starEach [] X.env := by rfl) (hpl : (backTo pos (starEach [b, c, d] X.env)).any (·.1) = false := by rfl) :
    DE X J env (.Call (.Name "began" p) [a, b, c, d] [] pos) (enc (beganS y (begW u) v)) := cal_de (cal_began T) hr (x, y, u, v) (da_cons ha (da_cons hb (da_cons hc (da_cons hd da_nil s3) s2) s1) s0) ⟨h1, h2, h3⟩ hg s0 hpl
end
section
variable {P : Program} {w : World} {K : PySem.W.Frag} {mg : Str → Option Value} {base : Heap}
theorem sc_ticked : FnScope ["setup", "state", "log", "heard", "logs", "bank", "letters", "more", "deal", "one", "who", "word"] ["setup", "state"] (defScope (top 60)) := ⟨rfl, rfl, rfl, by decide +kernel, rfl, by decide +kernel, by decide +kernel⟩
theorem cal_ticked (T : TxW K mg w) : Cal P w K mg base "ticked" 6 ["setup", "state"] (spT K J0 (fun a : Setup × State => [enc a.1, enc a.2]) (fun a => SW a.1 ∧ a.2.2.2.2.2.length + (letsOf a.1 a.2.1 a.2.2.1 a.1.2.1).length < 64) (fun a d => ∃ st, TickRel a.1 a.2 st ∧ d = enc st)) := by
  refine cal_of T.t.d_ticked fun f fd F => fn_ok F sc_ticked (fun _ => rfl) fun cdv A outer s H E a hr pre => ?_
  obtain ⟨S, log, heard, logs, bank, letters⟩ := a
  obtain ⟨wf, hl⟩ := pre
  have wf' : SW S := wf
  have hl' : letters.length + (letsOf S log heard S.2.1).length < 64 := hl
  have l2 : S.2.1.length ≤ 3 := wf'.l2
  refine db_cons (ds_unpE (ds := [enc log, enc heard, enc logs, enc bank, enc letters]) [2, 3, 4, 5, 6] (de_var (i := 1) rfl) rfl ?_ (pg_tup rfl (pgs_cons (pg_name (i := 2) sc_ticked.nd rfl (Or.inl rfl)) (pgs_cons (pg_name (i := 3) sc_ticked.nd rfl (Or.inl rfl)) (pgs_cons (pg_name (i := 4) sc_ticked.nd rfl (Or.inl rfl)) (pgs_cons (pg_name (i := 5) sc_ticked.nd rfl (Or.inl rfl)) (pgs_cons (pg_name (i := 6) sc_ticked.nd rfl (Or.inl rfl)) pgs_nil)))))))
  refine db_cons (ds_setOD (i := 7) df_nil sc_ticked.nd ?_)
  refine db_cons (ds_for (xs := S.2.1) (f := fun d => enc d.1) (t := .nm 8) (di_lst (de_fe (df_lc0 (xs := S.2.1) (f := enc) (g := fun d => enc d.1) (t := .nm 9) (own := [("one", 9)]) (di_tup (de_ixn 1 (de_var (i := 0) rfl) rfl)) rfl sc_ticked.nd (blkOk_by (N := ["setup", "state", "log", "heard", "logs", "bank", "letters", "more", "deal", "one", "who", "word"]) (sc := defScope (top 60)) (by decide +kernel)) (by decide) (fun _ _ _ _ _ => (pg_name (i := 9) sc_ticked.nd rfl (Or.inl rfl))) (fun _ => .nm _ _ _) (fun _ _ _ _ _ x hx => (de_ixn 0 (de_var (i := 9) rfl) rfl)) (small (m := 3) l2))))
    (fun i env => ∃ x y z u, env = [.d (enc S), .d (enc (log, heard, logs, bank, letters)), .d (enc log), .d (enc heard), .d (enc logs), .d (enc bank), .d (enc letters), .own (.lst ((letsOf S log heard (S.2.1.take i)).map enc)), x, y, z, u]) ⟨_, _, _, _, rfl⟩ ?_ ?_ ?_ PassesOwn.never)
  · rintro i d _ hd ⟨x, y, z, u, rfl⟩
    have hdn : d.1 ∈ S.2.1.map (·.1) := List.mem_map.mpr ⟨d, List.mem_of_getElem? hd, rfl⟩
    refine ⟨_, .nm _ _ _, ?_⟩
    have e : letsOf S log heard (S.2.1.take (i + 1)) = letsOf S log heard (S.2.1.take i) ++ letsAt S log heard d.1 := by
      unfold letsOf; rw [take_succ_of hd, List.flatMap_append]; simp
    have b1 := letsOf_len wf' log heard (S.2.1.take i)
    rw [List.length_take] at b1
    have b2 := asksOf_len wf' log heard d.1
    refine db_cons (ds_extend (i := 7) (P := fun es => es = (letsAt S log heard d.1).map enc) rfl (ep_fe (P := fun es => es = (asksOf S log heard d.1).map fun a => enc ((a.1, a.2.1, a.2.2, W.shop) : Let)) (df_lc0 (xs := asksOf S log heard d.1) (f := enc) (g := fun a => enc ((a.1, a.2.1, a.2.2, W.shop) : Let)) (t := .tp [10, 11, 8]) (own := [("who", 10), ("word", 11), ("deal", 8)]) (di_lst (c_asks_of T (hr.mono (by decide)) (x := S) (y := log) (z := heard) (u := d.1) (de_var (i := 0) rfl) (de_var (i := 2) rfl) (de_var (i := 3) rfl) (de_var (i := 8) rfl) wf' hdn)) rfl sc_ticked.nd (blkOk_by (N := ["setup", "state", "log", "heard", "logs", "bank", "letters", "more", "deal", "one", "who", "word"]) (sc := defScope (top 60)) (by decide +kernel)) (by decide) (fun _ _ _ _ _ => (pg_tup rfl (pgs_cons (pg_name (i := 10) sc_ticked.nd rfl (Or.inl rfl)) (pgs_cons (pg_name (i := 11) sc_ticked.nd rfl (Or.inl rfl)) (pgs_cons (pg_name (i := 8) sc_ticked.nd rfl (Or.inl rfl)) pgs_nil))))) (fun _ => .tp _ _ _ rfl)
      (fun _ _ _ _ _ x hx => (de_tup (da_cons (de_var (i := 10) rfl) (da_cons (de_var (i := 11) rfl) (da_cons (de_var (i := 8) rfl) (da_cons (de_gW T.t.c_SHOP) da_nil)))))) (small (m := 4) b2)) (fun ds e => ⟨ds, rfl, by rw [e]; unfold letsAt; rw [List.map_map]; rfl⟩)) (fun es q => ?_) (fun es q => ?_))
    · rw [q, List.length_map, List.length_map]
      exact Nat.le_of_lt (small (m := 100) (by unfold letsAt; rw [List.length_map]; omega))
    · rw [q, ← List.map_append, ← e]
      exact db_nil ⟨_, _, _, _, rfl⟩
  · rintro _ ⟨x, y, z, u, rfl⟩
    rw [List.take_length]
    refine db_cons (ds_ret (ep_tup (PA := fun l => ∃ ys, LetRel letters (letsOf S log heard S.2.1) ys ∧ l = [enc log, enc heard, enc logs, enc bank, enc ys]) ?_ (P2 := fun d => ∃ st, TickRel S (log, heard, logs, bank, letters) st ∧ d = enc st) (fun ds h => ?_)) (fun d h => h))
    · refine AP'.imp (ap_dc (de_var (i := 2) rfl) (ap_dc (de_var (i := 3) rfl) (ap_dc (de_var (i := 4) rfl) (ap_dc (de_var (i := 5) rfl) (ap_ec (c_with_letters T.t (hr.mono (by decide)) (x := letters) (y := letsOf S log heard S.2.1) (de_var (i := 6) rfl) (de_var (i := 7) rfl) hl') da_nil))))) ?_
      rintro _ ⟨_, rfl, _, rfl, _, rfl, _, rfl, d, _, rfl, ⟨ys, h1, h2⟩, rfl⟩
      exact ⟨ys, h1, by rw [h2]⟩
    · obtain ⟨ys, h1, rfl⟩ := h
      exact ⟨show 5 ≤ sizeLine by decide, (log, heard, logs, bank, ys), ⟨ys, h1, rfl⟩, rfl⟩
  · exact (pg_name (i := 8) sc_ticked.nd rfl (Or.inl rfl))
end
section
variable {X : Cx} {J : Jn} {env : List SL} {a b c d e f : Expr} {pos p : Pos}
theorem c_ticked (T : TxW X.K X.mg X.w) (hr : Room 6 X.A) {x : Setup} {y : State} (ha : DE X J env a (enc x)) (hb : DE X J env b (enc y)) (h1 : SW x) (h2 : y.2.2.2.2.length + (letsOf x y.1 y.2.1 x.2.1).length < 64) (hg : Gl X "ticked" := by rfl) (s0 : starEach [a, b] X.env = (false, eval a X.env) :: starEach [b] X.env := by rfl) (s1 : starEach [b] X.env = (false, eval b X.env) :: starEach [] X.env := by rfl) (hpl : (backTo pos (starEach [b] X.env)).any (·.1) = false := by rfl) :
    EP' X J env (.Call (.Name "ticked" p) [a, b] [] pos) (fun q => ∃ st, TickRel x y st ∧ q = enc st) := cal_ee (cal_ticked T) hr (x, y) (da_cons ha (da_cons hb da_nil s1) s0) ⟨h1, h2⟩ hg s0 hpl
end
end Sh
/-! A11: delivered, step. -/
namespace Sh
open PySem PySem.Spec PyProof.Rows L2
open En (enc)
def restOf (keep : Bool) (ls : List Let) (l : Let) : List Let := if keep = true then ls else ls.filter fun x => !decide (x = l)
def ansL (a : Option W) (d to : W) : List Let := match a with
  | none => []
  | some w => [(.shop, w, d, to)]
def logAt (S : Setup) (logs : List Log) (h : W) : Log := (logs[(housesIn S).idxOf h]?).getD []
def DelRel (S : Setup) (st : State) (l : Let) (keep : Bool) (st' : State) : Prop :=
  if l.1 = .shop then ∃ r, ShopRel S st.1 st.2.1 l.2.2.2 l.2.1 l.2.2.1 r ∧ st' = (r.1, r.2, st.2.2.1, st.2.2.2.1, restOf keep st.2.2.2.2 l)
  else if l.1 = .bank then ∃ ys, LetRel (restOf keep st.2.2.2.2 l) (ansL (bankStep S st.2.2.2.1 l.2.1 l.2.2.1).2 l.2.2.1 l.1) ys ∧ st' = (st.1, st.2.1, st.2.2.1, (bankStep S st.2.2.2.1 l.2.1 l.2.2.1).1, ys)
  else ∃ ys, LetRel (restOf keep st.2.2.2.2 l) (ansL (houseStep S (logAt S st.2.2.1 l.1) l.1 l.2.1 l.2.2.1).2 l.2.2.1 l.1) ys ∧
    st' = (st.1, st.2.1, st.2.2.1.take ((housesIn S).idxOf l.1) ++ [(houseStep S (logAt S st.2.2.1 l.1) l.1 l.2.1 l.2.2.1).1] ++ st.2.2.1.drop ((housesIn S).idxOf l.1 + 1), st.2.2.2.1, ys)
/-- the bounds that the code wants -/
structure Bd (S : Setup) (st : State) : Prop where
  b1 : st.1.length ≤ 1000
  b2 : st.2.1.length < 63
  b3 : st.2.2.1.length = (housesIn S).length
  b4 : ∀ g ∈ st.2.2.1, g.length ≤ 1000
  b5 : st.2.2.2.1.length ≤ 1000
  b6 : st.2.2.2.2.length < 63
structure LetOk (S : Setup) (l : Let) : Prop where
  dl : l.2.2.1 ∈ S.2.1.map (·.1)
  to : l.1 = .shop ∨ l.1 = .bank ∨ l.1 ∈ housesIn S
theorem restOf_len (keep : Bool) (ls : List Let) (l : Let) : (restOf keep ls l).length ≤ ls.length := by
  unfold restOf
  split
  · exact Nat.le_refl _
  · exact List.length_filter_le _ _
theorem ansL_len (a : Option W) (d to : W) : (ansL a d to).length ≤ 1 := by cases a <;> first | exact Nat.zero_le _ | exact Nat.le_refl _
section
variable {P : Program} {w : World} {K : PySem.W.Frag} {mg : Str → Option Value} {base : Heap}
theorem sc_delivered : FnScope ["setup", "state", "letter", "is_kept", "log", "heard", "logs", "bank", "letters", "to", "word", "deal", "sender", "rest", "answer", "at", "own", "more", "one"] ["setup", "state", "letter", "is_kept"] (defScope (top 61)) := ⟨rfl, rfl, rfl, by decide +kernel, rfl, by decide +kernel, by decide +kernel⟩
theorem cal_delivered (T : TxW K mg w) : Cal P w K mg base "delivered" 9 ["setup", "state", "letter", "is_kept"] (spT K J0 (fun a : Setup × State × Let × Bool => [enc a.1, enc a.2.1, enc a.2.2.1, .bl a.2.2.2]) (fun a => SW a.1 ∧ Bd a.1 a.2.1 ∧ LetOk a.1 a.2.2.1 ∧ a.2.2.1 ∈ a.2.1.2.2.2.2) (fun a d => ∃ st, DelRel a.1 a.2.1 a.2.2.1 a.2.2.2 st ∧ d = enc st)) := by
  refine cal_of T.t.d_delivered fun f fd F => fn_ok F sc_delivered (fun _ => rfl) fun cdv A outer s H E a hr pre => ?_
  obtain ⟨S, ⟨log, heard, logs, bank, letters⟩, ⟨to, word, dl, sender⟩, keep⟩ := a
  obtain ⟨wf, bd, lo, hm⟩ := pre
  rw [startE_lit 15 rfl]
  show DB _ _ [.d (enc S), .d (enc (log, heard, logs, bank, letters)), .d (enc ((to, word, dl, sender) : Let)), .d (.bl keep), .no, .no, .no, .no, .no, .no, .no, .no, .no, .no, .no, .no, .no, .no, .no] _ _ _
  have wf' : SW S := wf
  have bd' : Bd S (log, heard, logs, bank, letters) := bd
  have lo' : LetOk S (to, word, dl, sender) := lo
  have hm' : (to, word, dl, sender) ∈ letters := hm
  have hd : dl ∈ S.2.1.map (·.1) := lo'.dl
  have z1 : log.length ≤ 1000 := bd'.b1
  have z2 : heard.length < 63 := bd'.b2
  have z3 : logs.length = (housesIn S).length := bd'.b3
  have z4 : ∀ g ∈ logs, g.length ≤ 1000 := bd'.b4
  have z5 : bank.length ≤ 1000 := bd'.b5
  have z6 : letters.length < 63 := bd'.b6
  have l1 : S.1.length ≤ 3 := wf'.l1
  have hh : (housesIn S).length ≤ 2 := wf'.hh
  refine db_cons (ds_unpE (ds := [enc log, enc heard, enc logs, enc bank, enc letters]) [4, 5, 6, 7, 8] ?g1_1 ?g1_2 ?g1_3 ?g1_4 ?g1_5 ?g1_6 ?g1_7)
  case g1_1 => exact (de_var (i := 1) rfl)
  case g1_2 => rfl
  case g1_4 => exact pg_tup rfl (pgs_cons (pg_name (i := 4) sc_delivered.nd rfl (Or.inl rfl)) (pgs_cons (pg_name (i := 5) sc_delivered.nd rfl (Or.inl rfl)) (pgs_cons (pg_name (i := 6) sc_delivered.nd rfl (Or.inl rfl)) (pgs_cons (pg_name (i := 7) sc_delivered.nd rfl (Or.inl rfl)) (pgs_cons (pg_name (i := 8) sc_delivered.nd rfl (Or.inl rfl)) pgs_nil)))))
  case g1_5 => rfl
  case g1_6 => rfl
  case g1_7 => rfl
  show DB _ _ [.d (enc S), .d (enc (log, heard, logs, bank, letters)), .d (enc ((to, word, dl, sender) : Let)), .d (.bl keep), .d (enc log), .d (enc heard), .d (enc logs), .d (enc bank), .d (enc letters), .no, .no, .no, .no, .no, .no, .no, .no, .no, .no] _ _ _
  refine db_cons (ds_if (dt_nin hr (x := ((to, word, dl, sender) : Let)) (ys := letters) (de_var (i := 2) rfl) (de_var (i := 8) rfl) (.tup _)) (fun h => ?_) (fun h => ?_))
  · exfalso
    rw [decide_eq_true hm'] at h
    cases h
  refine db_nil ?_
  refine db_cons (ds_unpE (ds := [enc to, enc word, enc dl, enc sender]) [9, 10, 11, 12] ?g2_1 ?g2_2 ?g2_3 ?g2_4 ?g2_5 ?g2_6 ?g2_7)
  case g2_1 => exact (de_var (i := 2) rfl)
  case g2_2 => rfl
  case g2_4 => exact pg_tup rfl (pgs_cons (pg_name (i := 9) sc_delivered.nd rfl (Or.inl rfl)) (pgs_cons (pg_name (i := 10) sc_delivered.nd rfl (Or.inl rfl)) (pgs_cons (pg_name (i := 11) sc_delivered.nd rfl (Or.inl rfl)) (pgs_cons (pg_name (i := 12) sc_delivered.nd rfl (Or.inl rfl)) pgs_nil))))
  case g2_5 => rfl
  case g2_6 => rfl
  case g2_7 => rfl
  show DB _ _ [.d (enc S), .d (enc (log, heard, logs, bank, letters)), .d (enc ((to, word, dl, sender) : Let)), .d (.bl keep), .d (enc log), .d (enc heard), .d (enc logs), .d (enc bank), .d (enc letters), .d (enc to), .d (enc word), .d (enc dl), .d (enc sender), .no, .no, .no, .no, .no, .no] _ _ _
  refine db_cons (ds_setD (i := 13) (d := enc (restOf keep letters (to, word, dl, sender))) (DE.cast (de_ite (dt_val (c1 := keep) (de_var (i := 3) rfl)) (fun _ => (de_var (i := 8) rfl)) (fun _ => (de_tuple T.t.f_tuple (de_fe (df_lc (xs := letters) (f := enc) (p := fun x => !decide (x = ((to, word, dl, sender) : Let))) (g := enc) (t := .nm 18) (own := [("one", 18)]) (di_tup (de_var (i := 8) rfl)) rfl sc_delivered.nd (blkOk_by (N := ["setup", "state", "letter", "is_kept", "log", "heard", "logs", "bank", "letters", "to", "word", "deal", "sender", "rest", "answer", "at", "own", "more", "one"]) (sc := defScope (top 61)) (by decide +kernel)) (by decide) (fun _ _ _ _ _ => (pg_name (i := 18) sc_delivered.nd rfl (Or.inl rfl))) (fun _ => .nm _ _ _)
    (fun _ _ _ _ _ x hx => dts_one (dt_ne hr (x := x) (y := ((to, word, dl, sender) : Let)) (de_var (i := 18) rfl) (de_var (i := 2) rfl))) (fun _ _ _ _ _ x hx hp => (de_var (i := 18) rfl)) (small (m := 63) (by omega))))))) (by cases keep <;> rfl)) sc_delivered.nd ?_)
  have rl := restOf_len keep letters (to, word, dl, sender)
  show DB _ _ [.d (enc S), .d (enc (log, heard, logs, bank, letters)), .d (enc ((to, word, dl, sender) : Let)), .d (.bl keep), .d (enc log), .d (enc heard), .d (enc logs), .d (enc bank), .d (enc letters), .d (enc to), .d (enc word), .d (enc dl), .d (enc sender), .d (enc (restOf keep letters (to, word, dl, sender))), .no, .no, .no, .no, .no] _ _ _
  generalize eR : restOf keep letters (to, word, dl, sender) = rest at rl ⊢
  refine db_cons (ds_if (dt_eq hr (x := to) (y := W.shop) (de_var (i := 9) rfl) (de_gW T.t.c_SHOP)) (fun h => ?_) (fun h => ?_))
  · rw [decide_eq_true_eq] at h
    refine db_cons (ds_unpD (is := [4, 5]) (P := fun ds => ∃ r, ShopRel S log heard sender word dl r ∧ ds = [enc r.1, enc r.2]) ?g3_1 ?g3_2 ?g3_4 ?g3_5 ?g3_6 ?g3_7)
    case g3_1 => exact (c_shop_step T (hr.mono (by decide)) (x := S) (y := log) (z := heard) (o := sender) (v := word) (u := dl) (de_var (i := 0) rfl) (de_var (i := 4) rfl) (de_var (i := 5) rfl) (de_var (i := 12) rfl) (de_var (i := 10) rfl) (de_var (i := 11) rfl) wf' hd z1 z2).imp fun d ⟨r, h1, h2⟩ => ⟨[enc r.1, enc r.2], h2, r, h1, rfl⟩
    case g3_4 => exact pg_tup rfl (pgs_cons (pg_name (i := 4) sc_delivered.nd rfl (Or.inl rfl)) (pgs_cons (pg_name (i := 5) sc_delivered.nd rfl (Or.inl rfl)) pgs_nil))
    case g3_5 => rfl
    case g3_6 => rfl
    case g3_7 => rfl
    rintro ds ⟨r, h1, rfl⟩
    refine ⟨rfl, ?_⟩
    show DB _ _ [.d (enc S), .d (enc (log, heard, logs, bank, letters)), .d (enc ((to, word, dl, sender) : Let)), .d (.bl keep), .d (enc r.1), .d (enc r.2), .d (enc logs), .d (enc bank), .d (enc letters), .d (enc to), .d (enc word), .d (enc dl), .d (enc sender), .d (enc rest), .no, .no, .no, .no, .no] _ _ _
    refine db_cons (ds_retD (de_tup (da_cons (de_var (i := 4) rfl) (da_cons (de_var (i := 5) rfl) (da_cons (de_var (i := 6) rfl) (da_cons (de_var (i := 7) rfl) (da_cons (de_var (i := 13) rfl) da_nil)))))) ⟨(r.1, r.2, logs, bank, rest), ?_, rfl⟩)
    show DelRel S (log, heard, logs, bank, letters) (to, word, dl, sender) keep _
    unfold DelRel
    rw [if_pos h]
    exact ⟨r, h1, by rw [eR]⟩
  rw [decide_eq_false_iff_not] at h
  refine db_nil ?_
  refine db_consM (Φ1 := fun env1 => ∃ logs' bank' ans x15 x16 x17 x18, (∀ ys, LetRel rest (ansL ans dl to) ys → DelRel S (log, heard, logs, bank, letters) (to, word, dl, sender) keep (log, heard, logs', bank', ys)) ∧ env1 = [.d (enc S), .d (enc (log, heard, logs, bank, letters)), .d (enc ((to, word, dl, sender) : Let)), .d (.bl keep), .d (enc log), .d (enc heard), .d (enc logs'), .d (enc bank'), .d (enc letters), .d (enc to), .d (enc word), .d (enc dl), .d (enc sender), .d (enc rest), .d (encO ans), x15, x16, x17, x18]) (ds_if (dt_eq hr (x := to) (y := W.bank) (de_var (i := 9) rfl) (de_gW T.t.c_BANK)) (fun h2 => ?_) (fun h2 => ?_)) ?_
  · rw [decide_eq_true_eq] at h2
    refine db_cons (ds_unpE (ds := [enc (bankStep S bank word dl).1, encO (bankStep S bank word dl).2]) [7, 14] ?g4_1 ?g4_2 ?g4_3 ?g4_4 ?g4_5 ?g4_6 ?g4_7)
    case g4_1 => exact (c_bank_step T.t (hr.mono (by decide)) (x := S) (y := bank) (u := word) (v := dl) (de_var (i := 0) rfl) (de_var (i := 7) rfl) (de_var (i := 10) rfl) (de_var (i := 11) rfl) wf' hd z5)
    case g4_2 => rfl
    case g4_4 => exact pg_tup rfl (pgs_cons (pg_name (i := 7) sc_delivered.nd rfl (Or.inl rfl)) (pgs_cons (pg_name (i := 14) sc_delivered.nd rfl (Or.inl rfl)) pgs_nil))
    case g4_5 => rfl
    case g4_6 => rfl
    case g4_7 => rfl
    refine db_nil ⟨logs, (bankStep S bank word dl).1, (bankStep S bank word dl).2, _, _, _, _, fun ys hy => ?_, rfl⟩
    unfold DelRel
    rw [if_neg h, if_pos h2]
    exact ⟨ys, by rw [eR]; exact hy, rfl⟩
  · rw [decide_eq_false_iff_not] at h2
    have hin : to ∈ housesIn S := (lo'.to.resolve_left h).resolve_left h2
    have il : (housesIn S).idxOf to < (housesIn S).length := List.idxOf_lt_length_iff.mpr hin
    have il2 : (housesIn S).idxOf to < logs.length := by rw [z3]; exact il
    have ga : logs[(housesIn S).idxOf to]? = some (logAt S logs to) := by unfold logAt; rw [List.getElem?_eq_getElem il2]; rfl
    refine db_cons (ds_setD (i := 15) (de_index (xs := housesIn S) (x := to) (c_houses_in T.t (hr.mono (by decide)) (x := S) (de_var (i := 0) rfl) (by omega)) (de_var (i := 9) rfl) hin) sc_delivered.nd ?_)
    generalize eA : (housesIn S).idxOf to = at_ at il il2 ga ⊢
    refine db_cons (ds_unpE (ds := [enc (houseStep S (logAt S logs to) to word dl).1, encO (houseStep S (logAt S logs to) to word dl).2]) [16, 14] ?g5_1 ?g5_2 ?g5_3 ?g5_4 ?g5_5 ?g5_6 ?g5_7)
    case g5_1 => exact (c_house_step T.t (hr.mono (by decide)) (x := S) (y := logAt S logs to) (z := to) (u := word) (v := dl) (de_var (i := 0) rfl) (de_ixT (ds := logs.map enc) (i := (at_ : Nat)) (de_var (i := 6) rfl) (de_var (i := 15) rfl) (atI_nat (by rw [List.getElem?_map, ga]; rfl))) (de_var (i := 9) rfl) (de_var (i := 10) rfl) (de_var (i := 11) rfl) wf' hd (z4 _ (List.mem_of_getElem? ga)))
    case g5_2 => rfl
    case g5_4 => exact pg_tup rfl (pgs_cons (pg_name (i := 16) sc_delivered.nd rfl (Or.inl rfl)) (pgs_cons (pg_name (i := 14) sc_delivered.nd rfl (Or.inl rfl)) pgs_nil))
    case g5_5 => rfl
    case g5_6 => rfl
    case g5_7 => rfl
    have lt1 := List.length_take_le at_ logs
    have lt2 : (logs.drop (at_ + 1)).length ≤ logs.length := by rw [List.length_drop]; omega
    refine db_cons (ds_setD (i := 6) (d := enc (logs.take at_ ++ [(houseStep S (logAt S logs to) to word dl).1] ++ logs.drop (at_ + 1))) (DE.cast (de_catT (xs := (logs.take at_ ++ [(houseStep S (logAt S logs to) to word dl).1]).map enc) (ys := (logs.drop (at_ + 1)).map enc) (DE.cast (de_catT (xs := (logs.take at_).map enc) (ys := [enc (houseStep S (logAt S logs to) to word dl).1]) (DE.cast (de_slT (ds := logs.map enc) (de_var (i := 6) rfl) po0 (po1 (i := (at_ : Nat)) (de_var (i := 15) rfl))) (by rw [cutD_map, cut_take])) (de_tup (da_cons (de_var (i := 16) rfl) da_nil)) (Nat.le_of_lt (small (m := 1000) (by rw [List.length_map]; rw [List.length_singleton]; omega)))) (by rw [List.map_append]; rfl))
      (DE.cast (de_slT (ds := logs.map enc) (de_var (i := 6) rfl) (po1 (i := ((at_ + 1 : Nat) : Int)) (de_add (i := (at_ : Nat)) (j := 1) (de_var (i := 15) rfl) de_int)) po0) (by rw [cutD_map, cut_drop])) (Nat.le_of_lt (small (m := 1000) (by rw [List.length_map, List.length_map, List.length_append, List.length_singleton]; omega)))) (by show D.tup _ = D.tup _; rw [← List.map_append])) sc_delivered.nd ?_)
    refine db_nil ⟨_, bank, (houseStep S (logAt S logs to) to word dl).2, _, _, _, _, fun ys hy => ?_, rfl⟩
    unfold DelRel
    rw [if_neg h, if_neg h2]
    exact ⟨ys, by rw [eR]; exact hy, by rw [eA]⟩
  · rintro _ ⟨logs', bank', ans, x15, x16, x17, x18, k, rfl⟩
    have al := ansL_len ans dl to
    refine db_cons (ds_setD (i := 17) (d := encL (ansL ans dl to)) (DE.cast (de_ite (dt_isN (de_var (i := 14) (d := encO ans) rfl) (by cases ans; exact .inl rfl; exact .inr ⟨_, rfl⟩)) (fun _ => (de_fe df_nil)) (y := encL (ansL ans dl to)) (fun hn => ?_)) ?_) sc_delivered.nd ?_)
    · cases ans with
      | none => cases hn
      | some a => exact (de_fe (df_lst (da_cons (de_tup (da_cons (de_gW T.t.c_SHOP) (da_cons (de_var (i := 14) (d := enc a) rfl) (da_cons (de_var (i := 11) rfl) (da_cons (de_var (i := 9) rfl) da_nil))))) da_nil)))
    · cases ans <;> rfl
    refine db_cons (ds_ret (ep_tup (PA := fun l => ∃ ys, LetRel rest (ansL ans dl to) ys ∧ l = [enc log, enc heard, enc logs', enc bank', enc ys]) ?_ (P2 := fun d => ∃ st, DelRel S (log, heard, logs, bank, letters) (to, word, dl, sender) keep st ∧ d = enc st) (fun ds h => ?_)) (fun d h => h))
    · refine AP'.imp (ap_dc (de_var (i := 4) rfl) (ap_dc (de_var (i := 5) rfl) (ap_dc (de_var (i := 6) rfl) (ap_dc (de_var (i := 7) rfl) (ap_ec (c_with_letters T.t (hr.mono (by decide)) (x := rest) (y := ansL ans dl to) (de_var (i := 13) rfl) (de_var (i := 17) rfl) (by omega)) da_nil))))) ?_
      rintro _ ⟨_, rfl, _, rfl, _, rfl, _, rfl, d, _, rfl, ⟨ys, h1, h2⟩, rfl⟩
      exact ⟨ys, h1, by rw [h2]⟩
    · obtain ⟨ys, h1, rfl⟩ := h
      exact ⟨show 5 ≤ sizeLine by decide, (log, heard, logs', bank', ys), k ys h1, rfl⟩
end
section
variable {X : Cx} {J : Jn} {env : List SL} {a b c d e f : Expr} {pos p : Pos}
theorem c_delivered (T : TxW X.K X.mg X.w) (hr : Room 9 X.A) {x : Setup} {y : State} {z : Let} {u : Bool} (ha : DE X J env a (enc x)) (hb : DE X J env b (enc y)) (hc : DE X J env c (enc z)) (hd : DE X J env d (.bl u)) (h1 : SW x) (h2 : Bd x y) (h3 : LetOk x z) (h4 : z ∈ y.2.2.2.2) (hg : Gl X "delivered" := by rfl) (s0 : starEach [a, b, c, d] X.env = (false, eval a X.env) :: starEach [b, c, d] X.env := by rfl) (s1 : starEach [b, c, d] X.env = (false, eval b X.env) :: starEach [c, d] X.env := by rfl) (s2 : starEach [c, d] X.env = (false, eval c X.env) :: starEach [d] X.env := by rfl) (s3 : starEach [d] X.env = (false, eval d X.env) :: starEach [] X.env := by rfl) (hpl : (backTo pos (starEach [b, c, d] X.env)).any (·.1) = false := by rfl) :
    EP' X J env (.Call (.Name "delivered" p) [a, b, c, d] [] pos) (fun q => ∃ st, DelRel x y z u st ∧ q = enc st) := cal_ee (cal_delivered T) hr (x, y, z, u) (da_cons ha (da_cons hb (da_cons hc (da_cons hd da_nil s3) s2) s1) s0) ⟨h1, h2, h3, h4⟩ hg s0 hpl
end
inductive Ev where
  | tick | fall (w : W) | beg (d : W) | give (d : W) | ret (d : W) | come (l : Let) | double (l : Let) | lose (l : Let)
def Ev.word : Ev → W
  | .tick => .tick
  | .fall _ => .fall
  | .beg _ => .beg
  | .give _ => .giveup
  | .ret _ => .ret
  | .come _ => .come
  | .double _ => .double
  | .lose _ => .lose
def Ev.arg : Ev → List D
  | .tick => []
  | .fall w => [enc w]
  | .beg w => [enc w]
  | .give w => [enc w]
  | .ret w => [enc w]
  | .come l => [enc l]
  | .double l => [enc l]
  | .lose l => [enc l]
def encE (e : Ev) : D := .tup (enc e.word :: e.arg)
def EvOk (S : Setup) (st : State) : Ev → Prop
  | .tick => st.2.2.2.2.length + (letsOf S st.1 st.2.1 S.2.1).length < 64
  | .fall w => w ∈ [W.shop, .bank] ++ housesIn S
  | .beg d => MayBegin S st .beg d
  | .give d => MayBegin S st .giveup d
  | .ret d => MayBegin S st .ret d
  | .come l => l ∈ st.2.2.2.2 ∧ LetOk S l
  | .double l => l ∈ st.2.2.2.2 ∧ LetOk S l
  | .lose l => l ∈ st.2.2.2.2 ∧ LetOk S l
def StepRel (S : Setup) (st : State) (e : Ev) (st' : State) : Prop := match e with
  | .tick => TickRel S st st'
  | .fall w => st' = (st.1, if w = .shop then [] else st.2.1, st.2.2.1, st.2.2.2.1, st.2.2.2.2.filter fun l => !decide (l.1 = w))
  | .beg d => st' = beganS st .begun d
  | .give d => st' = beganS st .drop d
  | .ret d => st' = beganS st .ret d
  | .come l => DelRel S st l false st'
  | .double l => DelRel S st l true st'
  | .lose l => st' = (st.1, st.2.1, st.2.2.1, st.2.2.2.1, st.2.2.2.2.filter fun x => !decide (x = l))
section
variable {P : Program} {w : World} {K : PySem.W.Frag} {mg : Str → Option Value} {base : Heap}
theorem sc_step : FnScope ["setup", "state", "event", "word", "heard", "one"] ["setup", "state", "event"] (defScope (top 62)) := ⟨rfl, rfl, rfl, by decide +kernel, rfl, by decide +kernel, by decide +kernel⟩
theorem cal_step (T : TxW K mg w) : Cal P w K mg base "step" 10 ["setup", "state", "event"] (spT K J0 (fun a : Setup × State × Ev => [enc a.1, enc a.2.1, encE a.2.2]) (fun a => SW a.1 ∧ Bd a.1 a.2.1 ∧ EvOk a.1 a.2.1 a.2.2) (fun a d => ∃ st, StepRel a.1 a.2.1 a.2.2 st ∧ d = enc st)) := by
  refine cal_of T.t.d_step fun f fd F => fn_ok F sc_step (fun _ => rfl) fun cdv A outer s H E a hr pre => ?_
  obtain ⟨S, st, ev⟩ := a
  obtain ⟨wf, bd, eo⟩ := pre
  have wf' : SW S := wf
  have bd' : Bd S st := bd
  have eo' : EvOk S st ev := eo
  rw [startE_lit 3 rfl]
  show DB _ _ [.d (enc S), .d (enc st), .d (encE ev), .no, .no, .no] _ _ (fun d => ∃ st', StepRel S st ev st' ∧ d = enc st')
  refine db_cons (ds_setD (i := 3) (d := enc ev.word) (de_ixn 0 (ds := enc ev.word :: ev.arg) (de_var (i := 2) rfl) rfl) sc_step.nd ?_)
  show DB _ _ [.d (enc S), .d (enc st), .d (encE ev), .d (enc ev.word), .no, .no] _ _ _
  refine db_cons (ds_if (dt_in hr (x := ev.word) (ys := [W.beg, .giveup, .ret]) (de_var (i := 3) rfl) (de_tup (da_cons (de_W .beg) (da_cons (de_W .giveup) (da_cons (de_W .ret) da_nil)))) (.tup _)) (fun h => ?_) (fun h => ?_))
  · cases ev with
    | beg d => exact db_cons (ds_retD (c_began T.t (hr.mono (by decide)) (x := S) (y := st) (u := W.beg) (v := d) (de_var (i := 0) rfl) (de_var (i := 1) rfl) (de_var (i := 3) rfl) (de_ixn 1 (ds := [enc W.beg, enc d]) (de_var (i := 2) rfl) rfl) wf' eo' bd'.b1) ⟨_, rfl, rfl⟩)
    | give d => exact db_cons (ds_retD (c_began T.t (hr.mono (by decide)) (x := S) (y := st) (u := W.giveup) (v := d) (de_var (i := 0) rfl) (de_var (i := 1) rfl) (de_var (i := 3) rfl) (de_ixn 1 (ds := [enc W.giveup, enc d]) (de_var (i := 2) rfl) rfl) wf' eo' bd'.b1) ⟨_, rfl, rfl⟩)
    | ret d => exact db_cons (ds_retD (c_began T.t (hr.mono (by decide)) (x := S) (y := st) (u := W.ret) (v := d) (de_var (i := 0) rfl) (de_var (i := 1) rfl) (de_var (i := 3) rfl) (de_ixn 1 (ds := [enc W.ret, enc d]) (de_var (i := 2) rfl) rfl) wf' eo' bd'.b1) ⟨_, rfl, rfl⟩)
    | _ => simp [Ev.word] at h
  refine db_nil ?_
  refine db_cons (ds_if (dt_eq hr (x := ev.word) (y := W.tick) (de_var (i := 3) rfl) (de_W .tick)) (fun h2 => ?_) (fun h2 => ?_))
  · cases ev with
    | tick => exact db_cons (ds_ret (c_ticked T (hr.mono (by decide)) (x := S) (y := st) (de_var (i := 0) rfl) (de_var (i := 1) rfl) wf' eo') (fun d z => z))
    | _ => simp [Ev.word] at h2
  refine db_nil ?_
  refine db_cons (ds_if (dt_in hr (x := ev.word) (ys := [W.come, .double]) (de_var (i := 3) rfl) (de_tup (da_cons (de_W .come) (da_cons (de_W .double) da_nil))) (.tup _)) (fun h3 => ?_) (fun h3 => ?_))
  · cases ev with
    | come l => exact db_cons (ds_ret (c_delivered T (hr.mono (by decide)) (x := S) (y := st) (z := l) (u := false) (de_var (i := 0) rfl) (de_var (i := 1) rfl) (de_ixn 1 (ds := [enc W.come, enc l]) (de_var (i := 2) rfl) rfl) (DE.cast (de_eq hr (x := W.come) (y := W.double) (de_var (i := 3) rfl) (de_W .double)) rfl) wf' bd' eo'.2 eo'.1) (fun d z => z))
    | double l => exact db_cons (ds_ret (c_delivered T (hr.mono (by decide)) (x := S) (y := st) (z := l) (u := true) (de_var (i := 0) rfl) (de_var (i := 1) rfl) (de_ixn 1 (ds := [enc W.double, enc l]) (de_var (i := 2) rfl) rfl) (DE.cast (de_eq hr (x := W.double) (y := W.double) (de_var (i := 3) rfl) (de_W .double)) rfl) wf' bd' eo'.2 eo'.1) (fun d z => z))
    | _ => simp [Ev.word] at h3
  refine db_nil ?_
  have z6 : st.2.2.2.2.length < 63 := bd'.b6
  obtain ⟨log, heard, logs, bank, letters⟩ := st
  have z6' : letters.length < 63 := z6
  refine db_cons (ds_if (dt_eq hr (x := ev.word) (y := W.lose) (de_var (i := 3) rfl) (de_W .lose)) (fun h4 => ?_) (fun h4 => ?_))
  · cases ev with
    | lose l =>
      have hm : l ∈ letters := eo'.1
      refine db_cons (ds_if (dt_nin hr (x := l) (ys := letters) (de_ixn 1 (ds := [enc W.lose, enc l]) (de_var (i := 2) rfl) rfl) (de_ixn 4 (ds := [enc log, enc heard, enc logs, enc bank, enc letters]) (de_var (i := 1) rfl) rfl) (.tup _)) (fun h5 => ?_) (fun h5 => ?_))
      · exfalso
        rw [decide_eq_true hm] at h5
        cases h5
      refine db_nil ?_
      refine db_cons (ds_retD (de_catT (xs := [enc log, enc heard, enc logs, enc bank]) (ys := [enc (letters.filter fun x => !decide (x = l))]) (DE.cast (de_slT (ds := [enc log, enc heard, enc logs, enc bank, enc letters]) (de_var (i := 1) rfl) po0 (po1 (i := 4) de_int)) rfl) (de_tup (da_cons (de_tuple T.t.f_tuple (de_fe (df_lc (xs := letters) (f := enc) (p := fun x => !decide (x = l)) (g := enc) (t := .nm 5) (own := [("one", 5)]) (di_tup (de_ixn 4 (ds := [enc log, enc heard, enc logs, enc bank, enc letters]) (de_var (i := 1) rfl) rfl)) rfl sc_step.nd (blkOk_by (N := ["setup", "state", "event", "word", "heard", "one"]) (sc := defScope (top 62)) (by decide +kernel)) (by decide) (fun _ _ _ _ _ => (pg_name (i := 5) sc_step.nd rfl (Or.inl rfl))) (fun _ => .nm _ _ _)
        (fun _ _ _ _ _ x hx => dts_one (dt_ne hr (x := x) (y := l) (de_var (i := 5) rfl) (de_ixn 1 (ds := [enc W.lose, enc l]) (de_var (i := 2) rfl) rfl))) (fun _ _ _ _ _ x hx hp => (de_var (i := 5) rfl)) (small (m := 63) (by omega))))) da_nil)) (Nat.le_of_lt (small (m := 10) (show 5 ≤ 10 by decide)))) ⟨(log, heard, logs, bank, letters.filter fun x => !decide (x = l)), rfl, rfl⟩)
    | _ => simp [Ev.word] at h4
  refine db_nil ?_
  cases ev with
  | fall who =>
    refine db_cons (ds_setD (i := 4) (d := enc (if who = W.shop then [] else heard)) (DE.cast (de_ite (x := enc ([] : List Hrd)) (dt_eq hr (x := who) (y := W.shop) (de_ixn 1 (ds := [enc W.fall, enc who]) (de_var (i := 2) rfl) rfl) (de_gW T.t.c_SHOP)) (fun _ => (de_tup da_nil)) (fun _ => (de_ixn 1 (ds := [enc log, enc heard, enc logs, enc bank, enc letters]) (de_var (i := 1) rfl) rfl))) em_ite) sc_step.nd ?_)
    show DB _ _ [.d (enc S), .d (enc (log, heard, logs, bank, letters)), .d (encE (.fall who)), .d (enc W.fall), .d (enc (if who = W.shop then [] else heard)), .no] _ _ _
    exact db_cons (ds_retD (de_tup (da_cons (de_ixn 0 (ds := [enc log, enc heard, enc logs, enc bank, enc letters]) (de_var (i := 1) rfl) rfl) (da_cons (de_var (i := 4) rfl) (da_cons (de_ixn 2 (ds := [enc log, enc heard, enc logs, enc bank, enc letters]) (de_var (i := 1) rfl) rfl) (da_cons (de_ixn 3 (ds := [enc log, enc heard, enc logs, enc bank, enc letters]) (de_var (i := 1) rfl) rfl) (da_cons (de_tuple T.t.f_tuple (de_fe (df_lc (xs := letters) (f := enc) (p := fun x => !decide (x.1 = who)) (g := enc) (t := .nm 5) (own := [("one", 5)]) (di_tup (de_ixn 4 (ds := [enc log, enc heard, enc logs, enc bank, enc letters]) (de_var (i := 1) rfl) rfl)) rfl sc_step.nd (blkOk_by (N := ["setup", "state", "event", "word", "heard", "one"]) (sc := defScope (top 62)) (by decide +kernel)) (by decide) (fun _ _ _ _ _ => (pg_name (i := 5) sc_step.nd rfl (Or.inl rfl))) (fun _ => .nm _ _ _)
      (fun _ _ _ _ _ x hx => dts_one (dt_ne hr (x := x.1) (y := who) (de_ixn 0 (ds := EnT.fs x) (de_var (i := 5) rfl) rfl) (de_ixn 1 (ds := [enc W.fall, enc who]) (de_var (i := 2) rfl) rfl))) (fun _ _ _ _ _ x hx hp => (de_var (i := 5) rfl)) (small (m := 63) (by omega))))) da_nil)))))) ⟨(log, if who = W.shop then [] else heard, logs, bank, letters.filter fun x => !decide (x.1 = who)), rfl, rfl⟩)
  | tick => simp [Ev.word] at h2
  | beg d => simp [Ev.word] at h
  | give d => simp [Ev.word] at h
  | ret d => simp [Ev.word] at h
  | come l => simp [Ev.word] at h3
  | double l => simp [Ev.word] at h3
  | lose l => simp [Ev.word] at h4
end
section
variable {X : Cx} {J : Jn} {env : List SL} {a b c d e f : Expr} {pos p : Pos}
theorem c_step (T : TxW X.K X.mg X.w) (hr : Room 10 X.A) {x : Setup} {y : State} {z : Ev} (ha : DE X J env a (enc x)) (hb : DE X J env b (enc y)) (hc : DE X J env c (encE z)) (h1 : SW x) (h2 : Bd x y) (h3 : EvOk x y z) (hg : Gl X "step" := by rfl) (s0 : starEach [a, b, c] X.env = (false, eval a X.env) :: starEach [b, c] X.env := by rfl) (s1 : starEach [b, c] X.env = (false, eval b X.env) :: starEach [c] X.env := by rfl) (s2 : starEach [c] X.env = (false, eval c X.env) :: starEach [] X.env := by rfl) (hpl : (backTo pos (starEach [b, c] X.env)).any (·.1) = false := by rfl) :
    EP' X J env (.Call (.Name "step" p) [a, b, c] [] pos) (fun q => ∃ st, StepRel x y z st ∧ q = enc st) := cal_ee (cal_step T) hr (x, y, z) (da_cons ha (da_cons hb (da_cons hc da_nil s2) s1) s0) ⟨h1, h2, h3⟩ hg s0 hpl
end
end Sh
/-! A12: is_event, events_of. -/
namespace Sh
open PySem PySem.Spec PyProof.Rows L2
open En (enc)
def dealEvs (st : State) (d : W) : List Ev := if standOf st.1 d = .em then [.beg d] else if standOf st.1 d = .begun then [.give d] else if standOf st.1 d = .ended ∧ (W.go, d) ∈ st.1 then [.ret d] else []
def evs0 (S : Setup) : List Ev := [.tick] ++ ([W.shop, .bank] ++ housesIn S).map Ev.fall
def evs1 (st : State) (ds : List Deal) : List Ev := ds.flatMap fun d => dealEvs st d.1
def evs2 (ls : List Let) : List Ev := ls.flatMap fun l => [.come l, .double l, .lose l]
def eventsOf (S : Setup) (st : State) : List Ev := evs0 S ++ evs1 st S.2.1 ++ evs2 st.2.2.2.2
theorem evs1_len (st : State) : ∀ ds : List Deal, (evs1 st ds).length ≤ ds.length
  | [] => Nat.le_refl _
  | d :: ds => by
    have z := evs1_len st ds
    unfold evs1 at z ⊢
    rw [List.flatMap_cons, List.length_append, List.length_cons]
    have y : (dealEvs st d.1).length ≤ 1 := by
      unfold dealEvs
      split
      · exact Nat.le_refl _
      · split
        · exact Nat.le_refl _
        · split
          · exact Nat.le_refl _
          · exact Nat.zero_le _
    omega
theorem evs2_len : ∀ ls : List Let, (evs2 ls).length = 3 * ls.length
  | [] => rfl
  | d :: ds => by
    have z := evs2_len ds
    unfold evs2 at z ⊢
    rw [List.flatMap_cons, List.length_append, z]
    simp only [List.length_cons, List.length_nil]
    omega
section
variable {P : Program} {w : World} {K : PySem.W.Frag} {mg : Str → Option Value} {base : Heap}
theorem sc_is_event : FnScope ["setup", "thing"] ["setup", "thing"] (defScope (top 63)) := ⟨rfl, rfl, rfl, by decide +kernel, rfl, by decide +kernel, by decide +kernel⟩
theorem cal_is_event (T : Txt K mg) : Cal P w K mg base "is_event" 2 ["setup", "thing"] (spT K J0 (fun a : Setup × Ev => [enc a.1, encE a.2]) (fun a => SW a.1 ∧ ∀ w, a.2 = .fall w → w ∈ [W.shop, .bank] ++ housesIn a.1) (fun a d => d = .bl true)) := by
  refine cal_of T.d_is_event fun f fd F => fn_ok F sc_is_event (fun _ => rfl) fun cdv A outer s H E a hr pre => ?_
  obtain ⟨S, ev⟩ := a
  obtain ⟨wf, hf⟩ := pre
  have wf' : SW S := wf
  have hf' : ∀ w, ev = .fall w → w ∈ [W.shop, .bank] ++ housesIn S := hf
  have l1 : S.1.length ≤ 3 := wf'.l1
  have hh : (housesIn S).length ≤ 2 := wf'.hh
  show DB _ _ [.d (enc S), .d (encE ev)] _ _ _
  refine db_cons (ds_if (dt_w (dw_or (dt_not (dt_val (de_isi (T := "tuple") (n := "tuple") (r := true) T.f_isinstance (de_var (i := 1) rfl) (de_bty T.f_tuple (by decide +kernel)) rfl (by decide +kernel)))) fun _ => (dw_or (dt_eq hr (x := (((enc ev.word :: ev.arg).length : Nat) : Int)) (y := (0 : Int)) (de_len (ds := enc ev.word :: ev.arg) T.f_len (de_var (i := 1) rfl) (.tup _)) de_int) fun _ => (dw_or1 (dt_not (dt_val (de_isi (T := "str") (n := "str") (r := true) T.f_isinstance (de_ixn 0 (ds := enc ev.word :: ev.arg) (de_var (i := 1) rfl) rfl) (de_bty T.f_str (by decide +kernel)) rfl (by decide +kernel)))))))) (fun h => ?_) (fun h => ?_))
  · exfalso
    have z : ¬ ((((enc ev.word :: ev.arg).length : Nat) : Int) = 0) := by rw [List.length_cons]; omega
    rw [decide_eq_false z] at h
    cases h
  refine db_nil ?_
  refine db_cons (ds_if (dt_eq hr (x := ev.word) (y := W.tick) (de_ixn 0 (ds := enc ev.word :: ev.arg) (de_var (i := 1) rfl) rfl) (de_W .tick)) (fun h2 => ?_) (fun h2 => ?_))
  · refine db_cons (ds_retD (de_eq hr (x := (((enc ev.word :: ev.arg).length : Nat) : Int)) (y := (1 : Int)) (de_len (ds := enc ev.word :: ev.arg) T.f_len (de_var (i := 1) rfl) (.tup _)) de_int) ?_)
    cases ev with
    | tick => rfl
    | _ => simp [Ev.word] at h2
  refine db_nil ?_
  refine db_cons (ds_if (dt_ne hr (x := (((enc ev.word :: ev.arg).length : Nat) : Int)) (y := (2 : Int)) (de_len (ds := enc ev.word :: ev.arg) T.f_len (de_var (i := 1) rfl) (.tup _)) de_int) (fun h3 => ?_) (fun h3 => ?_))
  · exfalso
    cases ev with
    | tick => simp [Ev.word] at h2
    | _ => simp [Ev.arg] at h3
  refine db_nil ?_
  refine db_cons (ds_if (dt_in hr (x := ev.word) (ys := [W.beg, .giveup, .ret]) (de_ixn 0 (ds := enc ev.word :: ev.arg) (de_var (i := 1) rfl) rfl) (de_tup (da_cons (de_W .beg) (da_cons (de_W .giveup) (da_cons (de_W .ret) da_nil)))) (.tup _)) (fun h4 => ?_) (fun h4 => ?_))
  · cases ev with
    | beg d => exact db_cons (ds_retD (de_isi (T := "str") (n := "str") (r := true) T.f_isinstance (de_ixn 1 (ds := [enc W.beg, enc d]) (de_var (i := 1) rfl) rfl) (de_bty T.f_str (by decide +kernel)) rfl (by decide +kernel)) rfl)
    | give d => exact db_cons (ds_retD (de_isi (T := "str") (n := "str") (r := true) T.f_isinstance (de_ixn 1 (ds := [enc W.giveup, enc d]) (de_var (i := 1) rfl) rfl) (de_bty T.f_str (by decide +kernel)) rfl (by decide +kernel)) rfl)
    | ret d => exact db_cons (ds_retD (de_isi (T := "str") (n := "str") (r := true) T.f_isinstance (de_ixn 1 (ds := [enc W.ret, enc d]) (de_var (i := 1) rfl) rfl) (de_bty T.f_str (by decide +kernel)) rfl (by decide +kernel)) rfl)
    | _ => simp [Ev.word] at h4
  refine db_nil ?_
  refine db_cons (ds_if (dt_in hr (x := ev.word) (ys := [W.come, .double, .lose]) (de_ixn 0 (ds := enc ev.word :: ev.arg) (de_var (i := 1) rfl) rfl) (de_tup (da_cons (de_W .come) (da_cons (de_W .double) (da_cons (de_W .lose) da_nil)))) (.tup _)) (fun h5 => ?_) (fun h5 => ?_))
  · cases ev with
    | come l => exact db_cons (ds_retD (de_isi (T := "tuple") (n := "tuple") (r := true) T.f_isinstance (de_ixn 1 (ds := [enc W.come, enc l]) (de_var (i := 1) rfl) rfl) (de_bty T.f_tuple (by decide +kernel)) rfl (by decide +kernel)) rfl)
    | double l => exact db_cons (ds_retD (de_isi (T := "tuple") (n := "tuple") (r := true) T.f_isinstance (de_ixn 1 (ds := [enc W.double, enc l]) (de_var (i := 1) rfl) rfl) (de_bty T.f_tuple (by decide +kernel)) rfl (by decide +kernel)) rfl)
    | lose l => exact db_cons (ds_retD (de_isi (T := "tuple") (n := "tuple") (r := true) T.f_isinstance (de_ixn 1 (ds := [enc W.lose, enc l]) (de_var (i := 1) rfl) rfl) (de_bty T.f_tuple (by decide +kernel)) rfl (by decide +kernel)) rfl)
    | _ => simp [Ev.word] at h5
  refine db_nil ?_
  cases ev with
  | fall who =>
    exact db_cons (ds_retD (de_and (c1 := true) (c2 := true) (DE.cast (de_eq hr (x := W.fall) (y := W.fall) (de_ixn 0 (ds := [enc W.fall, enc who]) (de_var (i := 1) rfl) rfl) (de_W .fall)) rfl) fun _ => (de_one (de_inT (hf' who rfl) hr (de_ixn 1 (ds := [enc W.fall, enc who]) (de_var (i := 1) rfl) rfl) (de_catL (xs := [enc W.shop, enc W.bank]) (ys := (housesIn S).map enc) (de_fe (df_lst (da_cons (de_gW T.c_SHOP) (da_cons (de_gW T.c_BANK) da_nil)))) (c_houses_in T (hr.mono (by decide)) (x := S) (de_var (i := 0) rfl) (by omega)) (Nat.le_of_lt (small (m := 1000) (by rw [List.length_map]; show 2 + _ ≤ 1000; omega)))) (by rw [List.map_append]; exact .lst _)))) rfl)
  | tick => simp [Ev.word] at h2
  | beg d => simp [Ev.word] at h4
  | give d => simp [Ev.word] at h4
  | ret d => simp [Ev.word] at h4
  | come l => simp [Ev.word] at h5
  | double l => simp [Ev.word] at h5
  | lose l => simp [Ev.word] at h5
theorem sc_events_of : FnScope ["setup", "state", "found", "deal", "stage", "letter", "one", "who"] ["setup", "state"] (defScope (top 64)) := ⟨rfl, rfl, rfl, by decide +kernel, rfl, by decide +kernel, by decide +kernel⟩
theorem cal_events_of (T : Txt K mg) : Cal P w K mg base "events_of" 2 ["setup", "state"] (spT K J0 (fun a : Setup × State => [enc a.1, enc a.2]) (fun a => SW a.1 ∧ a.2.2.2.2.2.length < 64) (fun a d => d = .lst ((eventsOf a.1 a.2).map encE))) := by
  refine cal_of T.d_events_of fun f fd F => fn_ok F sc_events_of (fun _ => rfl) fun cdv A outer s H E a hr pre => ?_
  obtain ⟨S, log, heard, logs, bank, letters⟩ := a
  obtain ⟨wf, hz⟩ := pre
  have wf' : SW S := wf
  have hz' : letters.length < 64 := hz
  have l1 : S.1.length ≤ 3 := wf'.l1
  have l2 : S.2.1.length ≤ 3 := wf'.l2
  have hh : (housesIn S).length ≤ 2 := wf'.hh
  have n0 : ((evs0 S).map encE).length ≤ 10 := by unfold evs0; rw [List.length_map, List.length_append, List.length_map, List.length_append]; show 1 + (2 + _) ≤ 10; omega
  rw [startE_lit 6 rfl]
  show DB _ _ [.d (enc S), .d (enc (log, heard, logs, bank, letters)), .no, .no, .no, .no, .no, .no] _ _ (fun d => d = .lst ((eventsOf S (log, heard, logs, bank, letters)).map encE))
  refine db_cons (ds_setO (i := 2) (P := fun ds => ds = (evs0 S).map encE) ?_ (fun ds e => ?_) sc_events_of.nd)
  · have z : ∀ {X : Cx} {J : Jn} {env : List SL} {e : Expr}, DF X J env e ([encE .tick] ++ (([W.shop, .bank] ++ housesIn S).map fun who => encE (.fall who))) → FE' X J env e (fun ds => ds = (evs0 S).map encE) := fun {X J env e} h => by
      have q : (evs0 S).map encE = [encE .tick] ++ (([W.shop, .bank] ++ housesIn S).map fun who => encE (.fall who)) := by unfold evs0; rw [List.map_append, List.map_map]; rfl
      rw [q]; exact h
    refine z (df_catL (de_fe (df_lst (da_cons (de_tup (da_cons (de_W .tick) da_nil)) da_nil))) (de_fe (df_lc0 (xs := [W.shop, .bank] ++ housesIn S) (f := enc) (g := fun who => encE (.fall who)) (t := .nm 7) (own := [("who", 7)]) (di_lst (DE.cast (de_catL (xs := [enc W.shop, enc W.bank]) (ys := (housesIn S).map enc) (de_fe (df_lst (da_cons (de_gW T.c_SHOP) (da_cons (de_gW T.c_BANK) da_nil)))) (c_houses_in T (hr.mono (by decide)) (x := S) (de_var (i := 0) rfl) (by omega)) (Nat.le_of_lt (small (m := 1000) (by rw [List.length_map]; show 2 + _ ≤ 1000; omega)))) (by rw [List.map_append]; rfl))) rfl sc_events_of.nd (blkOk_by (N := ["setup", "state", "found", "deal", "stage", "letter", "one", "who"]) (sc := defScope (top 64)) (by decide +kernel)) (by decide) (fun _ _ _ _ _ => (pg_name (i := 7) sc_events_of.nd rfl (Or.inl rfl))) (fun _ => .nm _ _ _)
      (fun _ _ _ _ _ x hx => (de_tup (da_cons (de_W .fall) (da_cons (de_var (i := 7) rfl) da_nil)))) (small (m := 10) (by rw [List.length_append]; show 2 + _ ≤ 10; omega)))) (Nat.le_of_lt (small (m := 1000) (by rw [List.length_map, List.length_append]; show 1 + (2 + _) ≤ 1000; omega))))
  subst e
  show DB _ _ [.d (enc S), .d (enc (log, heard, logs, bank, letters)), .own (.lst ((evs0 S).map encE)), .no, .no, .no, .no, .no] _ _ _
  refine db_cons (ds_for (xs := S.2.1) (f := fun d => enc d.1) (t := .nm 3) (di_lst (de_fe (df_lc0 (xs := S.2.1) (f := enc) (g := fun d => enc d.1) (t := .nm 6) (own := [("one", 6)]) (di_tup (de_ixn 1 (de_var (i := 0) rfl) rfl)) rfl sc_events_of.nd (blkOk_by (N := ["setup", "state", "found", "deal", "stage", "letter", "one", "who"]) (sc := defScope (top 64)) (by decide +kernel)) (by decide) (fun _ _ _ _ _ => (pg_name (i := 6) sc_events_of.nd rfl (Or.inl rfl))) (fun _ => .nm _ _ _) (fun _ _ _ _ _ x hx => (de_ixn 0 (de_var (i := 6) rfl) rfl)) (small (m := 3) l2))))
    (fun i env => ∃ x3 x4, env = [.d (enc S), .d (enc (log, heard, logs, bank, letters)), .own (.lst ((evs0 S ++ evs1 (log, heard, logs, bank, letters) (S.2.1.take i)).map encE)), x3, x4, .no, .no, .no]) ⟨_, _, by rw [List.take_zero]; show _ = [_, _, SL.own (.lst ((evs0 S ++ []).map encE)), _, _, _, _, _]; rw [List.append_nil]⟩ ?_ ?_ ?_ PassesOwn.never)
  · rintro i d _ hd ⟨x3, x4, rfl⟩
    refine ⟨_, .nm _ _ _, ?_⟩
    have e : evs1 (log, heard, logs, bank, letters) (S.2.1.take (i + 1)) = evs1 (log, heard, logs, bank, letters) (S.2.1.take i) ++ dealEvs (log, heard, logs, bank, letters) d.1 := by
      unfold evs1; rw [take_succ_of hd, List.flatMap_append]; simp
    rw [e]
    have n1 := evs1_len (log, heard, logs, bank, letters) (S.2.1.take i)
    rw [List.length_take] at n1
    rw [List.length_map] at n0
    have n2 : ((evs0 S ++ evs1 (log, heard, logs, bank, letters) (S.2.1.take i)).map encE).length < sizeLine := small (m := 1000) (by rw [List.length_map, List.length_append]; omega)
    rw [← List.append_assoc]
    generalize evs0 S ++ evs1 (log, heard, logs, bank, letters) (S.2.1.take i) = acc at n2 ⊢
    refine db_cons (ds_setD (i := 4) (c_stage_of T (hr.mono (by decide)) (x := log) (y := d.1) (de_ixn 0 (ds := [enc log, enc heard, enc logs, enc bank, enc letters]) (de_var (i := 1) rfl) rfl) (de_var (i := 3) rfl)) sc_events_of.nd ?_)
    show DB _ _ [.d (enc S), .d (enc (log, heard, logs, bank, letters)), .own (.lst (acc.map encE)), .d (enc d.1), .d (enc (standOf log d.1)), .no, .no, .no] _ _ _
    refine db_cons (ds_if (dt_eq hr (x := standOf log d.1) (y := W.em) (de_var (i := 4) rfl) (de_W .em)) (fun h => ?_) (fun h => ?_))
    · rw [decide_eq_true_eq] at h
      refine db_cons (ds_appendD (i := 2) (d := encE (.beg d.1)) rfl (de_tup (da_cons (de_W .beg) (da_cons (de_var (i := 3) rfl) da_nil))) n2 ?_)
      refine db_nil (db_nil ⟨.d (enc d.1), .d (enc (standOf log d.1)), ?_⟩)
      unfold dealEvs
      rw [if_pos h, List.map_append]
      rfl
    rw [decide_eq_false_iff_not] at h
    refine db_cons (ds_if (dt_eq hr (x := standOf log d.1) (y := W.begun) (de_var (i := 4) rfl) (de_gW T.c_BEGUN)) (fun h2 => ?_) (fun h2 => ?_))
    · rw [decide_eq_true_eq] at h2
      refine db_cons (ds_appendD (i := 2) (d := encE (.give d.1)) rfl (de_tup (da_cons (de_W .giveup) (da_cons (de_var (i := 3) rfl) da_nil))) n2 ?_)
      refine db_nil (db_nil (db_nil ⟨.d (enc d.1), .d (enc (standOf log d.1)), ?_⟩))
      unfold dealEvs
      rw [if_neg h, if_pos h2, List.map_append]
      rfl
    rw [decide_eq_false_iff_not] at h2
    refine db_cons (ds_if (dt_w (dw_and (dt_eq hr (x := standOf log d.1) (y := W.ended) (de_var (i := 4) rfl) (de_gW T.c_ENDED)) fun _ => (dw_and1 (dt_val (c_went T (hr.mono (by decide)) (x := log) (y := d.1) (de_ixn 0 (ds := [enc log, enc heard, enc logs, enc bank, enc letters]) (de_var (i := 1) rfl) rfl) (de_var (i := 3) rfl)))))) (fun h3 => ?_) (fun h3 => ?_))
    · rw [Bool.and_eq_true, decide_eq_true_eq, decide_eq_true_eq] at h3
      refine db_cons (ds_appendD (i := 2) (d := encE (.ret d.1)) rfl (de_tup (da_cons (de_W .ret) (da_cons (de_var (i := 3) rfl) da_nil))) n2 ?_)
      refine db_nil (db_nil (db_nil (db_nil ⟨.d (enc d.1), .d (enc (standOf log d.1)), ?_⟩)))
      unfold dealEvs
      rw [if_neg h, if_neg h2, if_pos h3, List.map_append]
      rfl
    · rw [Bool.and_eq_false_iff, decide_eq_false_iff_not, decide_eq_false_iff_not] at h3
      refine db_nil (db_nil (db_nil (db_nil ⟨.d (enc d.1), .d (enc (standOf log d.1)), ?_⟩)))
      unfold dealEvs
      rw [if_neg h, if_neg h2, if_neg (fun z => h3.elim (fun q => q z.1) fun q => q z.2), List.append_nil]
  · rintro _ ⟨x3, x4, rfl⟩
    rw [List.take_length]
    have n1 := evs1_len (log, heard, logs, bank, letters) S.2.1
    rw [List.length_map] at n0
    refine db_cons (ds_for (xs := letters) (f := enc) (t := .nm 5) (di_tup (de_ixn 4 (ds := [enc log, enc heard, enc logs, enc bank, enc letters]) (de_var (i := 1) rfl) rfl))
      (fun i env => ∃ x5, env = [.d (enc S), .d (enc (log, heard, logs, bank, letters)), .own (.lst ((evs0 S ++ evs1 (log, heard, logs, bank, letters) S.2.1 ++ evs2 (letters.take i)).map encE)), x3, x4, x5, .no, .no]) ⟨_, by rw [List.take_zero]; show _ = [_, _, SL.own (.lst ((evs0 S ++ evs1 (log, heard, logs, bank, letters) S.2.1 ++ []).map encE)), _, _, _, _, _]; rw [List.append_nil]⟩ ?_ ?_ ?_ PassesOwn.never)
    · rintro i l _ hl ⟨x5, rfl⟩
      refine ⟨_, .nm _ _ _, ?_⟩
      have e : evs2 (letters.take (i + 1)) = evs2 (letters.take i) ++ [.come l, .double l, .lose l] := by
        unfold evs2; rw [take_succ_of hl, List.flatMap_append]; simp
      rw [e, ← List.append_assoc]
      have n2 := evs2_len (letters.take i)
      rw [List.length_take] at n2
      have n3 : ((evs0 S ++ evs1 (log, heard, logs, bank, letters) S.2.1 ++ evs2 (letters.take i)).map encE).length + 3 < sizeLine := small (m := 1000) (by rw [List.length_map, List.length_append, List.length_append]; omega)
      generalize evs0 S ++ evs1 (log, heard, logs, bank, letters) S.2.1 ++ evs2 (letters.take i) = acc at n3 ⊢
      show DB _ _ [.d (enc S), .d (enc (log, heard, logs, bank, letters)), .own (.lst (acc.map encE)), x3, x4, .d (enc l), .no, .no] _ _ _
      refine db_cons (ds_extend (i := 2) (P := fun es => es = [encE (.come l), encE (.double l), encE (.lose l)]) rfl (ep_fe (P := fun es => es = [encE (.come l), encE (.double l), encE (.lose l)]) (df_lst (da_cons (de_tup (da_cons (de_W .come) (da_cons (de_var (i := 5) rfl) da_nil))) (da_cons (de_tup (da_cons (de_W .double) (da_cons (de_var (i := 5) rfl) da_nil))) (da_cons (de_tup (da_cons (de_W .lose) (da_cons (de_var (i := 5) rfl) da_nil))) da_nil)))) (fun ds e => ⟨ds, rfl, e⟩)) (fun es q => ?_) (fun es q => ?_))
      · rw [q]; exact Nat.le_of_lt n3
      · rw [q]
        refine db_nil ⟨.d (enc l), ?_⟩
        rw [List.map_append]
        rfl
    · rintro _ ⟨x5, rfl⟩
      rw [List.take_length]
      exact db_cons (ds_retD (de_var (i := 2) rfl) rfl)
    · exact (pg_name (i := 5) sc_events_of.nd rfl (Or.inl rfl))
  · exact (pg_name (i := 3) sc_events_of.nd rfl (Or.inl rfl))
end
section
variable {X : Cx} {J : Jn} {env : List SL} {a b c d e f : Expr} {pos p : Pos}
theorem c_is_event (T : Txt X.K X.mg) (hr : Room 2 X.A) {x : Setup} {y : Ev} (ha : DE X J env a (enc x)) (hb : DE X J env b (encE y)) (h1 : SW x) (h2 : ∀ w, y = .fall w → w ∈ [W.shop, .bank] ++ housesIn x) (hg : Gl X "is_event" := by rfl) (s0 : starEach [a, b] X.env = (false, eval a X.env) :: starEach [b] X.env := by rfl) (s1 : starEach [b] X.env = (false, eval b X.env) :: starEach [] X.env := by rfl) (hpl : (backTo pos (starEach [b] X.env)).any (·.1) = false := by rfl) :
    DE X J env (.Call (.Name "is_event" p) [a, b] [] pos) (.bl true) := cal_de (cal_is_event T) hr (x, y) (da_cons ha (da_cons hb da_nil s1) s0) ⟨h1, h2⟩ hg s0 hpl
theorem c_events_of (T : Txt X.K X.mg) (hr : Room 2 X.A) {x : Setup} {y : State} (ha : DE X J env a (enc x)) (hb : DE X J env b (enc y)) (h1 : SW x) (h2 : y.2.2.2.2.length < 64) (hg : Gl X "events_of" := by rfl) (s0 : starEach [a, b] X.env = (false, eval a X.env) :: starEach [b] X.env := by rfl) (s1 : starEach [b] X.env = (false, eval b X.env) :: starEach [] X.env := by rfl) (hpl : (backTo pos (starEach [b] X.env)).any (·.1) = false := by rfl) :
    DE X J env (.Call (.Name "events_of" p) [a, b] [] pos) (.lst ((eventsOf x y).map encE)) := cal_de (cal_events_of T) hr (x, y) (da_cons ha (da_cons hb da_nil s1) s0) ⟨h1, h2⟩ hg s0 hpl
end
end Sh
/-! Sh17: own dicts: {}, d.update(e). -/
namespace Sh
open PySem PySem.Spec PyProof.Rows L2
open En (enc)
def mergeW {α : Type} (kvs more : List (W × α)) : List (W × α) := more.foldl (fun acc q => putW acc q.1 q.2) kvs
theorem mergeW_len {α : Type} : ∀ (more kvs : List (W × α)), (mergeW kvs more).length ≤ kvs.length + more.length
  | [], kvs => Nat.le_refl _
  | p :: r, kvs => by
    have h1 := mergeW_len r (putW kvs p.1 p.2)
    have h2 := putW_len kvs p.1 p.2
    show (mergeW (putW kvs p.1 p.2) r).length ≤ _
    rw [List.length_cons]
    omega
def rDUpd : V → List V → Hp → VK → Prop := fun x xs H Q => ∃ (d o : Addr) (kvs more : List (Key × V)), x = V.ref d ∧ xs = [V.ref o] ∧ d ≠ o ∧ H d = some (.dK kvs) ∧ Rd H o (.dK more) ∧ kvs.length + more.length ≤ sizeLine ∧ Q .non (upd H d (.dK (mergeK kvs more)))
theorem mt_dupd {X : Cx} : MtR X "dict.update" rDUpd := by
  intro pins s σ H x vs v us Q I rx rv h
  obtain ⟨d, o, kvs, more, ex, ev, ne, e1, e2, hz, q⟩ := h
  subst ex ev
  obtain rfl : v = Value.ref d := rx
  rw [Vals.ref1 rv]
  obtain ⟨z1, d1, xs, rel, dd⟩ := dk_of I.hok e1
  obtain ⟨z2, d2, ys, rel2, dd2⟩ := dk_rd I.hok e2
  refine call_meetsIn PySem.F.slot_dict_update dd.typeIs PySem.F.entry_dict_update (PySem.F.args_dict_update_2 _ _) (meets_dict_update (mixKind X.prog X.w) d o ne d2) ⟨xs, ys, dd, dd2, by rw [← rel.length, ← rel2.length]; exact hz, fun h' g1 g2 sb => ?_⟩
  refine ⟨.non, _, d_write (a := d) (ob := .dK (mergeK kvs more)) I (by rw [e1]; exact True.intro) sb (let ⟨q', _, _, hq, _⟩ := g1; ⟨q', hq⟩) (dk_new (Nat.le_trans (length_mergeK more kvs) hz) d1 (rel2.merge rel) g1), rfl, q⟩
section
variable {X : Cx} {J : Jn} {env : List SL} {e : Expr} {P : D → Prop} {Φ : List SL → Prop} {Ψ : D → Prop} {pos npos apos cpos : Pos}
theorem isKV_merge {K : PySem.W.Frag} {G : Hp} : ∀ {more acc : List (W × D)} {vs accv : List (Key × V)}, IsKV K G vs (wd more) → IsKV K G accv (wd acc) → IsKV K G (mergeK accv vs) (wd (mergeW acc more)) := fun h1 h2 => mergeK_nil h1 h2
theorem ds_update {i : Nat} {n : Str} {kvs more : List (W × D)} (ho : env[i]? = some (.own (.dct (wd kvs)))) (he : DE X J env e (.dct (wd more))) (hz : kvs.length + more.length ≤ 1000) (k : Φ (env.set i (.own (.dct (wd (mergeW kvs more)))))) (hN : X.N[i]? = some n := by rfl) (hv : Vis X.env.scope n := by first | exact Or.inl rfl | exact Or.inr (Or.inl rfl) | exact Or.inr (Or.inr rfl))
    (hd : (n == ("__debug__" : Str)) = false := by decide) (hcd : (n == ("__classdict__" : Str)) = false := by decide) (hbase : attributeBase (.Name n npos) "update" X.env (eval (.Name n npos) X.env) = eval (.Name n npos) X.env := by rfl)
    (hfew : ((backTo cpos (starEach [e] X.env)).all (fun x => !x.1) && (backToKw cpos (keywordEach [] X.env)).all (fun x => x.1.isSome) && decide ([e].length + ([] : List Keyword).length + (if ([] : List Keyword).isEmpty then 0 else 1) < 30)) = true := by rfl)
    (hline : (apos.endLine == cpos.line) = true := by rfl) (hs : starEach [e] X.env = (false, eval e X.env) :: starEach [] X.env := by rfl) (hplain : (backTo cpos (starEach [] X.env)).any (·.1) = false := by rfl)
    (hsw : swapsWith (.Call (.Attribute (.Name n npos) "update" apos) [e] [] cpos) none pos.line X.env = pure false := by rfl) : DS X J env (.Expr (.Call (.Attribute (.Name n npos) "update" apos) [e] [] cpos) pos) Φ Ψ := fun G0 H0 σ H G Dn s q r => by
  refine wpS_of (ps_expr (pe_bm PySem.F.plainAttrs_dict PySem.F.slot_dict_update (by rfl) mt_dupd (pe_var hN hv hd hcd) (pa_cons pe_wp pa_nil (by exact hs)) hbase hfew hline hs hplain) hsw) ?_
  obtain ⟨p, as, e2, ⟨ea, vs, hp, al⟩, _⟩ := s.ownAt ho
  refine ⟨.ref p, e2, .inr (.inr (.inl ⟨rfl, .inl ⟨_, hp⟩⟩)), ?_⟩
  refine he G0 H0 σ H G _ s fun v d G1 H1 u i1 pd => ?_
  subst pd
  have s1 := s.ext u
  obtain ⟨p', as', e2', ⟨ea', vs', hp', al'⟩, mu⟩ := s1.ownAt ho
  rw [e2] at e2'
  cases e2'
  obtain ⟨b, zs, rfl, hb, alb⟩ := i1.dct_inv
  have g1 : G1 p = none := by
    obtain ⟨ad, h1, _⟩ := s1.sl
    obtain ⟨p2, e3, r2, f2⟩ := h1 i _ ho
    rw [e2] at e3
    cases e3
    obtain ⟨x1, _⟩ := r2
    exact (f2 p (by rw [x1]; exact List.mem_singleton.mpr rfl)).2
  have ne : p ≠ b := fun z => by
    rw [← z] at hb
    rcases hb with hb | ⟨ob, hb⟩
    · rw [g1] at hb; cases hb
    · rw [g1] at hb; cases hb
  refine ⟨p, b, vs', zs, rfl, rfl, ne, hp', rd_same u.gh hb, ?_, ?_⟩
  · rw [isKV_len al', isKV_len alb, wd_len, wd_len, sizeLine_eq]; omega
  · exact q _ _ _ _ k (mu _ _ ⟨ea', _, upd_same, isKV_merge alb al'⟩)
end
end Sh
/-! Sh18: zip of two sequences, lists or tuples. -/
namespace Sh
open PySem PySem.Spec PyProof.Rows L2
open En (enc)
/-- a list (false) or a tuple (true) -/
def SqB (b : Bool) (K : PySem.W.Frag) (H : Hp) (a : Addr) (xs : List V) : Prop := if b = true then SqT K H a xs else SqL K H a xs
def ItB (b : Bool) (h : Heap) (it a : Addr) (i : Nat) : Prop := if b = true then h.IsTupleIter it a i else h.IsListIter it a i
def HsB (b : Bool) (h : Heap) (a : Addr) (us : Array Value) : Prop := if b = true then h.IsTuple a us else h.IsList a us
def itO (b : Bool) (a : Addr) : Obj := if b = true then { cls := .type "tuple_iterator", data := .fields #[.ref a, .int 0 0] } else { cls := .type "list_iterator", data := .fields #[.ref a, .int 0 0] }
theorem draws_b (b : Bool) {prog : Program} {w : World} {A : Around} (hh : A.handled = none) (it l : Addr) (ne : l ≠ it) (us : Array Value) : Draws prog w A it [it, l] us.size (fun i v => us[i]? = some v) (fun i h => ItB b h it l i ∧ HsB b h l us) := by
  cases b
  · exact Draws.list hh it l ne us
  · exact Draws.tuple hh it l ne us
theorem begins_b (b : Bool) (l : Addr) (us : Array Value) : Begins (.ref l) (itO b l) fun h => HsB b h l us := by
  cases b
  · exact begins_list l us
  · exact begins_tuple l us
theorem inv_b (b : Bool) {X : Cx} {pins : List (Addr × Obj)} {σ : L2.St} {H : Hp} {s : Shared} {a : Addr} {xs : List V} (I : Inv X pins σ H s) (h : SqB b X.K H a xs) : ∃ us : List Value, Vals xs us ∧ HsB b s.heap a us.toArray ∧ a < s.heap.objs.size := by
  cases b
  · obtain ⟨its, rv, p, _⟩ := I.list h
    exact ⟨its, rv, p.isList, p.lt⟩
  · obtain ⟨its, rv, p, _⟩ := I.tuple h
    have p2 : s.heap.IsTuple a its.toArray := p
    obtain ⟨ob, e, _⟩ := p2
    exact ⟨its, rv, p, Heap.lt_size e⟩
theorem inj_b (b : Bool) {X : Cx} {pins : List (Addr × Obj)} {σ : L2.St} {H : Hp} {s : Shared} {a : Addr} {xs ys : List V} (I : Inv X pins σ H s) (h : SqB b X.K H a xs) (h2 : SqB b X.K H a ys) : xs = ys := by
  cases b
  · exact I.list_inj h h2
  · exact I.tuple_inj h h2
theorem itB_obj {b : Bool} {h : Heap} {it a : Addr} {i : Nat} (z : ItB b h it a i) : ∃ o, h.get? it = some o ∧ ∀ v, o.data ≠ .cell v := by
  cases b
  · obtain ⟨o, e, _, d⟩ := (z : h.IsListIter it a i)
    exact ⟨o, e, fun v q => by rw [d] at q; cases q⟩
  · obtain ⟨o, e, _, d⟩ := (z : h.IsTupleIter it a i)
    exact ⟨o, e, fun v q => by rw [d] at q; cases q⟩
theorem itB_at {b : Bool} {h h' : Heap} {it a : Addr} {i : Nat} (z : ItB b h it a i) (k : ∀ o, h.get? it = some o → h'.get? it = some o) : ItB b h' it a i := by
  cases b
  · exact (z : h.IsListIter it a i).at k
  · exact (z : h.IsTupleIter it a i).at k
theorem itB_new {b : Bool} {h : Heap} {it a : Addr} (e : h.get? it = some (itO b a)) : ItB b h it a 0 := by
  cases b
  · exact ⟨_, e, rfl, rfl⟩
  · exact ⟨_, e, rfl, rfl⟩
theorem hsB_at {b : Bool} {h h' : Heap} {a : Addr} {us : Array Value} (z : HsB b h a us) (k : ∀ o, h.get? a = some o → h'.get? a = some o) : HsB b h' a us := by
  cases b
  · exact (z : h.IsList a us).at k
  · exact (z : h.IsTuple a us).at k
def ItzB (b c : Bool) (K : PySem.W.Frag) (p q : Addr) : It :=
  ⟨fun i H => ∃ (xs ys : List V), SqB b K H p xs ∧ SqB c K H q ys ∧ i < xs.length ∧ i < ys.length,
    fun i H v H' => ∃ T x y, v = .ref T ∧ H T = none ∧ H' = upd H T (.tup [x, y]) ∧ (∀ xs, SqB b K H p xs → xs[i]? = some x) ∧ ∀ ys, SqB c K H q ys → ys[i]? = some y,
    fun i H => ∃ xs ys : List V, SqB b K H p xs ∧ SqB c K H q ys ∧ i ≤ xs.length ∧ i ≤ ys.length ∧ (i = xs.length ∨ i = ys.length)⟩
theorem turn_zipB {P : Program} {w : World} {K : PySem.W.Frag} {elts : List Expr} {kk : Nat} {tpos : Pos} {b c : Bool} {p q z TI TO i1 i2 : Addr} (S : ZipSep2 z TI TO i1 i2 [i1, p] [i2, q]) (n1 : p ≠ i1) (n2 : q ≠ i2) :
    Turn P w K (.Tuple elts kk tpos) (ItzB b c K p q) [z, TI, TO, i1, i2] z (fun i h => IsZip h z TI TO .none ∧ IsPair h TI (.ref i1) (.ref i2) ∧ (∃ x y, IsPair h TO x y) ∧ ItB b h i1 p i ∧ ItB c h i2 q i) where
  mem := by simp
  obj := fun i h st a ha => by
    obtain ⟨h1, h2, ⟨x, y, h3⟩, h4, h5⟩ := st
    simp only [List.mem_cons, List.not_mem_nil, or_false] at ha
    rcases ha with rfl | rfl | rfl | rfl | rfl
    · exact ⟨_, h1, fun v q => by cases q⟩
    · exact ⟨_, h2, fun v q => by cases q⟩
    · exact ⟨_, h3, fun v q => by cases q⟩
    · exact itB_obj h4
    · exact itB_obj h5
  keep := fun i h h' st k => by
    obtain ⟨h1, h2, ⟨x, y, h3⟩, h4, h5⟩ := st
    exact ⟨k _ (by simp) _ h1, k _ (by simp) _ h2, ⟨x, y, k _ (by simp) _ h3⟩, itB_at h4 fun o e => k _ (by simp) o e, itB_at h5 fun o e => k _ (by simp) o e⟩
  item := by
    intro X hP hw hK hc i pins s σ H E I hf st hg
    subst hP hw hK
    obtain ⟨h1, h2, ⟨x0, y0, h3⟩, h4, h5⟩ := st
    obtain ⟨xs, ys, g1, g2, l1, l2⟩ := hg
    obtain ⟨us, r1, e1, _⟩ := inv_b b I g1
    obtain ⟨ws, r2, e2, _⟩ := inv_b c I g2
    have hh : X.A.in1.handled = none := I.ok.hd hc
    have zl : z < s.heap.objs.size := Heap.lt_size h1
    refine wpAny_pyNext_zipD2_item S (draws_b b hh i1 p n1 us.toArray) (draws_b c hh i2 q n2 ws.toArray) h1 h2 h3 ⟨h4, e1⟩ ⟨h5, e2⟩ (by simpa [← r1.length] using l1) (by simpa [← r2.length] using l2) fun u1 u2 h' tk p1 p2 z' TO' st1 st2 hT hsz hk => ?_
    refine ⟨_, rfl, wpAny_letOwnedTupleGo_zip (s := { s with heap := h', toks := tk }) z' fun h'' z'' sb => ?_⟩
    have hT2 : h''.get? s.heap.objs.size = some { cls := .type "tuple", data := .seq #[u1, u2] } := (sb.2 _ (Nat.ne_of_gt zl)).trans hT
    obtain ⟨x, hx, rx⟩ : ∃ x, xs[i]? = some x ∧ RelV x u1 := by
      obtain ⟨u, hu, ru⟩ := r1.get (List.getElem?_eq_getElem l1)
      have e : us[i]? = some u1 := by simpa using p1
      rw [hu] at e; cases e
      exact ⟨_, List.getElem?_eq_getElem l1, ru⟩
    obtain ⟨y, hy, ry⟩ : ∃ y, ys[i]? = some y ∧ RelV y u2 := by
      obtain ⟨u, hu, ru⟩ := r2.get (List.getElem?_eq_getElem l2)
      have e : ws[i]? = some u2 := by simpa using p2
      rw [hu] at e; cases e
      exact ⟨_, List.getElem?_eq_getElem l2, ru⟩
    have new : ObjOk X.prog X.w (upd H s.heap.objs.size (.tup [x, y])) h'' s.heap.objs.size (.tup [x, y]) := ⟨by show 2 ≤ sizeLine; decide, [u1, u2], .cons rx (.cons ry .nil), ⟨_, hT2, rfl, _, rfl⟩⟩
    have I1 : Inv X pins σ (upd H s.heap.objs.size (.tup [x, y])) { s with heap := h'', toks := tk } := I.turnedNew (t' := tk) (ch := [z, TI, TO, i1, i2]) (fun a o hb e => (sb.2 a fun y => hb (by simp [y])).trans (hk a o (fun y => hb (by simp [y])) (fun y => hb (by simp [y])) (fun y => hb (by simp [y])) (fun y => hb (by simp [y])) e)) hf (Nat.le_refl _) new
    refine ⟨.ref s.heap.objs.size, _, I1, rfl, ⟨_, x, y, rfl, I.hok.fresh (Nat.le_refl _), rfl, fun l hl => by rw [inj_b b I hl g1]; exact hx, fun l hl => by rw [inj_b c I hl g2]; exact hy⟩, ⟨z'', ?_, ⟨u1, u2, ?_⟩, ?_, ?_⟩, fun a ha => ?_⟩
    · exact (sb.2 _ S.TIz).trans (hk _ _ S.TIz S.TITO S.TIi1 S.TIi2 h2)
    · exact (sb.2 _ S.TOz).trans TO'
    · exact itB_at st1.1 fun o e => (sb.2 _ fun y => S.zi1 y.symm).trans e
    · exact itB_at st2.1 fun o e => (sb.2 _ fun y => S.zi2 y.symm).trans e
    · have lt : a < s.heap.objs.size := by
        simp only [List.mem_cons, List.not_mem_nil, or_false] at ha
        rcases ha with rfl | rfl | rfl | rfl | rfl
        · exact zl
        · exact Heap.lt_size h2
        · exact Heap.lt_size h3
        · obtain ⟨o, e, _⟩ := itB_obj h4; exact Heap.lt_size e
        · obtain ⟨o, e, _⟩ := itB_obj h5; exact Heap.lt_size e
      rw [upd_ne (Nat.ne_of_lt lt)]
      exact (hf a ha).1
  done := by
    intro X hP hw hK hc i pins s σ H E I hf st hg
    subst hP hw hK
    obtain ⟨h1, h2, ⟨x0, y0, h3⟩, h4, h5⟩ := st
    obtain ⟨xs, ys, g1, g2, l1, l2, le⟩ := hg
    obtain ⟨us, r1, e1, _⟩ := inv_b b I g1
    obtain ⟨ws, r2, e2, _⟩ := inv_b c I g2
    have hh : X.A.in1.handled = none := I.ok.hd hc
    refine wpAny_pyNext_zipD2_end S (draws_b b hh i1 p n1 us.toArray) (draws_b c hh i2 q n2 ws.toArray) h1 h2 h3 ⟨h4, e1⟩ ⟨h5, e2⟩ (by simpa [← r1.length] using l1) (by simpa [← r2.length] using l2) (by simpa [← r1.length, ← r2.length] using le) fun h' tk hk => ⟨rfl, I.turnedL (t' := tk) (ch := [z, TI, TO, i1, i2]) (fun a o hb e => hk a o (fun y => hb (by simp [y])) (fun y => hb (by simp [y])) (fun y => hb (by simp [y])) (fun y => hb (by simp [y])) e) hf⟩
  self := fun A i s Q E st h => wpAny_pyIter_zip st.1 h
section
variable {X : Cx} {J : Jn} {env : List SL} {a b : Expr} {p pos tpos : Pos} {elts : List Expr} {kk : Nat}
theorem sqB_same {b : Bool} {K : PySem.W.Frag} {G H : Hp} {a : Addr} {xs : List V} (e : Same G H) (h : SqB b K G a xs) : SqB b K H a xs := by
  cases b
  · rcases (h : SqL K G a xs) with z | z
    · exact Or.inl (rd_same e z)
    · exact Or.inr z
  · exact sqT_same e h
theorem ItOk.zip {K : PySem.W.Frag} {G : Hp} {b c : Bool} {p q : Addr} {xs ys : List V} {ds es : List D} (h1 : SqB b K G p xs) (h2 : SqB c K G q ys) (a1 : IsAll K G xs ds) (a2 : IsAll K G ys es) : ItOk K J (ItzB b c K p q) ((ds.zip es).map fun d => .tup [d.1, d.2]) G where
  go := fun i H' G' e bs hi => by
    rw [List.length_map, List.length_zip] at hi
    exact ⟨xs, ys, sqB_same bs.gh (sqB_same e h1), sqB_same bs.gh (sqB_same e h2), by rw [a1.len]; omega, by rw [a2.len]; omega⟩
  yld := fun i H' G' x H'' e bs hi y => by
    rw [List.length_map, List.length_zip] at hi
    obtain ⟨T, u, v, rfl, hT, rfl, k1, k2⟩ := y
    have q1 := k1 xs (sqB_same bs.gh (sqB_same e h1))
    have q2 := k2 ys (sqB_same bs.gh (sqB_same e h2))
    obtain ⟨d1, e1, r1⟩ := a1.get' q1
    obtain ⟨d2, e2, r2⟩ := a2.get' q2
    have un := Up.new bs (o := .tup [u, v]) hT
    refine ⟨_, .tup [d1, d2], un, ?_, .tup (.inl (.inl upd_same)) (.cons ((r1.mono e).mono un.g) (.cons ((r2.mono e).mono un.g) .nil))⟩
    rw [List.getElem?_map, (List.getElem?_zip_eq_some (z := (d1, d2))).mpr ⟨e1, e2⟩]
    rfl
  stop := fun i H' G' e bs hi => by
    rw [List.length_map, List.length_zip] at hi
    exact ⟨xs, ys, sqB_same bs.gh (sqB_same e h1), sqB_same bs.gh (sqB_same e h2), by rw [a1.len]; omega, by rw [a2.len]; omega, by rw [a1.len, a2.len]; omega⟩
def tagB : D → Bool
  | .tup _ => true
  | _ => false
theorem Sq.isB {K : PySem.W.Frag} {G : Hp} {v : V} {d : D} {ds : List D} (h : Sq d ds) (r : Is K G v d) : ∃ a xs, v = .ref a ∧ SqB (tagB d) K G a xs ∧ IsAll K G xs ds := by
  cases h with
  | lst => obtain ⟨a, xs, e, h, al⟩ := r.lst_inv; exact ⟨a, xs, e, .inl (.inl h), al⟩
  | tup => obtain ⟨a, xs, e, h, al⟩ := r.tup_inv; exact ⟨a, xs, e, h, al⟩
/-- zip(a, b) -/
theorem di_zip {d1 d2 : D} {ds es : List D} (hm : X.mg "zip" = none) (ha : DE X J env a d1) (hb : DE X J env b d2) (q1 : Sq d1 ds) (q2 : Sq d2 es) (hg : Gl X "zip" := by rfl)
    (hs : starEach [a, b] X.env = (false, eval a X.env) :: starEach [b] X.env := by rfl) (hs2 : starEach [b] X.env = (false, eval b X.env) :: starEach [] X.env := by rfl) (hpl : (backTo pos (starEach [b] X.env)).any (·.1) = false := by rfl) :
    DI X J env (.Tuple elts kk tpos) (.Call (.Name "zip" p) [a, b] [] pos) ((ds.zip es).map fun d => .tup [d.1, d.2]) := fun G0 H0 σ H G R s q pins st I => by
  have pa : PA X [a, b] (tCons (wpE X a) (tCons (wpE X b) tNil)) := pa_cons pe_wp (pa_cons pe_wp pa_nil hs2) hs
  refine Call_ (ld_blt I hg hm PyProof.Rows.boot_zip (PyProof.Rows.callWith_type1 (thn (pa.run pos pins st σ H (fun us H1 => ∃ a1 a2 G1 xs ys, us = [.ref a1, .ref a2] ∧ Up J G H G1 H1 ∧ SqB (tagB d1) X.K G1 a1 xs ∧ SqB (tagB d2) X.K G1 a2 ys ∧ IsAll X.K G1 xs ds ∧ IsAll X.K G1 ys es) I ?_) fun us s1 ⟨vs, H1, I1, rv, a1, a2, G1, xs, ys, ev, u, z1, z2, l1, l2⟩ => ?_) hs hpl))
  · refine ha G0 H0 σ H G _ s fun v1 e1 G1 H1 u1 r1 p1 => hb G0 H0 σ H1 G1 _ (s.ext u1) fun v2 e2 G2 H2 u2 r2 p2 => ?_
    subst p1 p2
    obtain ⟨a1, xs, rfl, z1, l1⟩ := q1.isB r1
    obtain ⟨a2, ys, rfl, z2, l2⟩ := q2.isB r2
    exact ⟨a1, a2, G2, xs, ys, rfl, u1.trans u2, sqB_same u2.g z1, z2, l1.mono u2.g, l2⟩
  · subst ev
    have b1 := (s.ext u).bs
    obtain ⟨us1, w1, h1, lt1⟩ := inv_b (tagB d1) I1 (sqB_same b1.gh z1)
    obtain ⟨us2, w2, h2, lt2⟩ := inv_b (tagB d2) I1 (sqB_same b1.gh z2)
    have eus : us = [.ref a1, .ref a2] := by
      cases rv with
      | cons x y => cases y with
        | cons x2 y2 => cases y2; cases x; cases x2; rfl
    rw [eus]
    refine zip_begins2 (begins_b (tagB d1) a1 us1.toArray) (begins_b (tagB d2) a2 us2.toArray) h1 h2 fun h' hz hTI hTO e1 e2 hsz hk => ?_
    refine wpAny_pyIter_zip hz ?_
    have sep := zip_sep2 (N := s1.heap.objs.size) (fp1 := [a1]) (fp2 := [a2]) (fun b hb => by rw [List.mem_singleton.mp hb]; exact lt1) (fun b hb => by rw [List.mem_singleton.mp hb]; exact lt2)
    have fresh : ∀ c, c ∈ [s1.heap.objs.size + 4, s1.heap.objs.size + 2, s1.heap.objs.size + 3, s1.heap.objs.size, s1.heap.objs.size + 1] → FpOk X pins H1 c := fun c hc => by
      have le : s1.heap.objs.size ≤ c := by
        simp only [List.mem_cons, List.not_mem_nil, or_false] at hc
        rcases hc with rfl | rfl | rfl | rfl | rfl
        · exact Nat.le_add_right _ _
        · exact Nat.le_add_right _ _
        · exact Nat.le_add_right _ _
        · exact Nat.le_refl _
        · exact Nat.le_add_right _ _
      exact I1.fpOk le (I1.hok.fresh le)
    exact ⟨s1.heap.objs.size + 4, [s1.heap.objs.size + 4, s1.heap.objs.size + 2, s1.heap.objs.size + 3, s1.heap.objs.size, s1.heap.objs.size + 1], _, _, H1, rfl, I1.kept (t' := s1.toks) hk, turn_zipB sep (Nat.ne_of_lt lt1) (Nat.ne_of_lt (Nat.lt_succ_of_lt lt2)), ⟨hz, hTI, ⟨_, _, hTO⟩, itB_new e1, itB_new e2⟩, fresh, q _ _ G1 H1 u (ItOk.zip z1 z2 l1 l2) rfl⟩
theorem di_zipW {α β : Type} [En α] [En β] {xs : List α} {ys : List β} {d1 d2 : D} (hm : X.mg "zip" = none) (ha : DE X J env a d1) (hb : DE X J env b d2) (q1 : Sq d1 (xs.map enc)) (q2 : Sq d2 (ys.map enc)) (hg : Gl X "zip" := by rfl)
    (hs : starEach [a, b] X.env = (false, eval a X.env) :: starEach [b] X.env := by rfl) (hs2 : starEach [b] X.env = (false, eval b X.env) :: starEach [] X.env := by rfl) (hpl : (backTo pos (starEach [b] X.env)).any (·.1) = false := by rfl) :
    DI X J env (.Tuple elts kk tpos) (.Call (.Name "zip" p) [a, b] [] pos) ((xs.zip ys).map fun p => D.tup [enc p.1, enc p.2]) := by
  have z := di_zip (elts := elts) (kk := kk) (tpos := tpos) (p := p) (pos := pos) hm ha hb q1 q2 hg hs hs2 hpl
  rw [List.zip_map, List.map_map] at z
  exact z
/-- {} -/
theorem se_dict0 : DSE X J env (.Dict [] [] pos) (.own (.dct [])) := fun G0 H0 σ H G Q s q => by
  refine wp_of pe_dnewK fun l fr => ?_
  have u := Up.newH s.bs (o := .dK []) fr
  exact q (.ref l) (.own (.dct [])) [l] G _ u ⟨l, rfl, rfl, [], upd_same, .nil⟩ (fun a ha => by rw [List.mem_singleton.mp ha]; exact ⟨fr, s.bs.gh.free fr⟩) rfl
end
end Sh
/-! A13: things_in, coins_in. -/
namespace Sh
open PySem PySem.Spec PyProof.Rows L2
open En (enc)
theorem lookW_putW {α : Type} (kvs : List (W × α)) (w v : W) (x : α) : lookW (putW kvs w x) v = if w = v then some x else lookW kvs v := by
  unfold putW
  by_cases c : (kvs.any fun p => decide (p.1 = w)) = true
  · rw [if_pos c]
    obtain ⟨q, hq, eq⟩ := List.any_eq_true.mp c
    have eq' : q.1 = w := of_decide_eq_true eq
    clear c eq
    have go : ∀ l : List (W × α), (∃ q ∈ l, q.1 = w) ∨ w ≠ v → lookW (l.map fun p => if p.1 = w then (p.1, x) else p) v = if w = v then some x else lookW l v := by
      intro l
      induction l with
      | nil =>
        intro h
        rcases h with ⟨q, hq, _⟩ | h
        · cases hq
        · rw [if_neg h]; rfl
      | cons p r ih =>
        intro h
        rw [List.map_cons, lookW_cons, lookW_cons]
        by_cases e : p.1 = w
        · rw [if_pos e]
          by_cases z : w = v
          · rw [if_pos z, if_pos (by rw [e]; exact z)]
          · rw [if_neg z, if_neg (by rw [e]; exact z), if_neg (by rw [e]; exact z), ih (.inr z), if_neg z]
        · rw [if_neg e]
          by_cases z : w = v
          · have nv : ¬ p.1 = v := fun y => e (y.trans z.symm)
            rw [if_pos z, if_neg nv]
            have h2 : ∃ q ∈ r, q.1 = w := by
              rcases h with ⟨q, hq, eq⟩ | h
              · rcases List.mem_cons.mp hq with y | y
                · rw [y] at eq; exact absurd eq e
                · exact ⟨q, y, eq⟩
              · exact absurd z h
            rw [ih (.inl h2), if_pos z]
          · rw [if_neg z, ih (.inr z), if_neg z]
    exact go kvs (.inl ⟨q, hq, eq'⟩)
  · rw [if_neg c]
    have nin : ∀ q ∈ kvs, q.1 ≠ w := fun q hq e => c (List.any_eq_true.mpr ⟨q, hq, decide_eq_true e⟩)
    clear c
    induction kvs with
    | nil => rw [List.nil_append, lookW_cons]
    | cons p r ih =>
      rw [List.cons_append, lookW_cons, lookW_cons, ih fun q hq => nin q (.tail _ hq)]
      by_cases z : p.1 = v
      · rw [if_pos z, if_pos z, if_neg (fun y => nin p (.head _) (z.trans y.symm))]
      · rw [if_neg z, if_neg z]
theorem lookW_none {α : Type} : ∀ {kvs : List (W × α)} {w : W}, w ∉ kvs.map (·.1) → lookW kvs w = none
  | [], _, _ => rfl
  | p :: r, w, h => by
    rw [lookW_cons, if_neg (fun z => h (by rw [← z]; exact .head _)), lookW_none fun z => h (.tail _ z)]
theorem lookW_merge {α : Type} : ∀ (more acc : List (W × α)) (w : W), (more.map (·.1)).Nodup → lookW (mergeW acc more) w = (lookW more w).or (lookW acc w)
  | [], acc, w, _ => rfl
  | p :: r, acc, w, nd => by
    rw [List.map_cons, List.nodup_cons] at nd
    show lookW (mergeW (putW acc p.1 p.2) r) w = _
    rw [lookW_merge r _ w nd.2, lookW_cons, lookW_putW]
    by_cases z : p.1 = w
    · rw [if_pos z, if_pos z, lookW_none (by rw [← z]; exact nd.1)]; rfl
    · rw [if_neg z, if_neg z]
def thingRow (S : Setup) (logs : List Log) (s : Sup) : List Int := row4 s.2.2 (cF S (logAt S logs s.2.1) s.2.1 S.2.1 (fun _ _ => 0) s.1)
def dC (kvs : List (W × List Int)) : List (W × D) := kvs.map fun p => (p.1, D.lst (p.2.map D.int))
def foundT (S : Setup) (ps : List (W × Log)) (acc : List (W × D)) : List (W × D) := ps.foldl (fun acc p => mergeW acc (dC (counts S p.2 p.1))) acc
theorem dC_keys (kvs : List (W × List Int)) : (dC kvs).map (·.1) = kvs.map (·.1) := by unfold dC; rw [List.map_map]; rfl
theorem dC_look (kvs : List (W × List Int)) (w : W) : lookW (dC kvs) w = (lookW kvs w).map fun r => D.lst (r.map D.int) := lookW_map (f := fun r : List Int => D.lst (r.map D.int))
theorem counts_keys (S : Setup) (log : Log) (h : W) : (counts S log h).map (·.1) = (S.1.filter fun s => decide (s.2.1 = h)).map (·.1) := kv4_keys S h _
theorem counts_none {S : Setup} (wf : SW S) (log : Log) {h : W} {s : Sup} (hs : s ∈ S.1) (e : s.2.1 ≠ h) : lookW (counts S log h) s.1 = none := by
  refine lookW_none ?_
  rw [counts_keys]
  intro z
  obtain ⟨t, ht, et⟩ := List.mem_map.mp z
  obtain ⟨t1, t2⟩ := List.mem_filter.mp ht
  have := nodup_fst wf.sn t1 hs et
  rw [this] at t2
  exact e (of_decide_eq_true t2)
theorem foundT_look {S : Setup} (wf : SW S) {s : Sup} (hs : s ∈ S.1) : ∀ (ps : List (W × Log)) (acc : List (W × D)), (ps.map (·.1)).Nodup →
    (∀ p ∈ ps, p.1 = s.2.1 → lookW (foundT S ps acc) s.1 = some (.lst ((row4 s.2.2 (cF S p.2 s.2.1 S.2.1 (fun _ _ => 0) s.1)).map D.int))) ∧ ((∀ p ∈ ps, p.1 ≠ s.2.1) → lookW (foundT S ps acc) s.1 = lookW acc s.1)
  | [], acc, _ => ⟨fun p hp => (by cases hp), fun _ => rfl⟩
  | p :: r, acc, nd => by
    rw [List.map_cons, List.nodup_cons] at nd
    have ih := foundT_look wf hs r (mergeW acc (dC (counts S p.2 p.1))) nd.2
    have kn : ((dC (counts S p.2 p.1)).map (·.1)).Nodup := by rw [dC_keys]; exact kv4_nodup wf _ _
    have st : lookW (mergeW acc (dC (counts S p.2 p.1))) s.1 = (lookW (dC (counts S p.2 p.1)) s.1).or (lookW acc s.1) := lookW_merge _ _ _ kn
    refine ⟨fun q hq e => ?_, fun h => ?_⟩
    · rcases List.mem_cons.mp hq with z | z
      · have nr : ∀ t ∈ r, t.1 ≠ s.2.1 := fun t ht y => nd.1 (by rw [← z, e, ← y]; exact List.mem_map.mpr ⟨t, ht, rfl⟩)
        show lookW (foundT S r _) s.1 = _
        have lk : lookW (counts S p.2 p.1) s.1 = some (row4 s.2.2 (cF S p.2 p.1 S.2.1 (fun _ _ => 0) s.1)) := kv4_look wf _ hs (by rw [← z]; exact e.symm)
        rw [ih.2 nr, st, dC_look, lk, z, show p.1 = s.2.1 by rw [← z]; exact e]
        rfl
      · exact ih.1 q z e
    · show lookW (foundT S r _) s.1 = _
      rw [ih.2 fun q hq => h q (.tail _ hq), st, dC_look, counts_none wf p.2 hs (fun z => h p (.head _) z.symm)]
      rfl
theorem hin_mem : ∀ (xs : List Sup) (acc : List W), (∀ w ∈ acc, w ∈ hin xs acc) ∧ ∀ s ∈ xs, s.2.1 ∈ hin xs acc
  | [], acc => ⟨fun _ h => h, fun _ h => by cases h⟩
  | p :: r, acc => by
    have ih := hin_mem r (if p.2.1 ∈ acc then acc else acc ++ [p.2.1])
    refine ⟨fun w hw => ih.1 w ?_, fun s hs => ?_⟩
    · split
      · exact hw
      · exact List.mem_append_left _ hw
    · rcases List.mem_cons.mp hs with z | z
      · refine ih.1 s.2.1 ?_
        rw [z]
        split
        · assumption
        · exact List.mem_append_right _ (List.mem_singleton.mpr rfl)
      · exact ih.2 s z
theorem hin_nodup : ∀ (xs : List Sup) (acc : List W), acc.Nodup → (hin xs acc).Nodup
  | [], acc, h => h
  | p :: r, acc, h => by
    refine hin_nodup r (if p.2.1 ∈ acc then acc else acc ++ [p.2.1]) ?_
    split
    · exact h
    · rename_i n
      exact List.nodup_append.mpr ⟨h, List.nodup_cons.mpr ⟨fun z => (by cases z), .nil⟩, fun a ha b hb e => n (by rw [List.mem_singleton.mp hb] at e; rw [← e]; exact ha)⟩
theorem houses_nodup (S : Setup) : (housesIn S).Nodup := hin_nodup _ _ .nil
theorem house_mem {S : Setup} {s : Sup} (hs : s ∈ S.1) : s.2.1 ∈ housesIn S := (hin_mem _ _).2 s hs
theorem foundT_row {S : Setup} (wf : SW S) {logs : List Log} (hl : logs.length = (housesIn S).length) {s : Sup} (hs : s ∈ S.1) : lookW (foundT S ((housesIn S).zip logs) []) s.1 = some (.lst ((thingRow S logs s).map D.int)) := by
  have hm := house_mem hs
  have il : (housesIn S).idxOf s.2.1 < (housesIn S).length := List.idxOf_lt_length_iff.mpr hm
  have il2 : (housesIn S).idxOf s.2.1 < logs.length := by rw [hl]; exact il
  have pm : (s.2.1, logAt S logs s.2.1) ∈ (housesIn S).zip logs := by
    refine List.mem_of_getElem? (i := (housesIn S).idxOf s.2.1) ?_
    rw [List.getElem?_zip_eq_some (z := (s.2.1, logAt S logs s.2.1))]
    refine ⟨by rw [List.getElem?_eq_getElem il, List.getElem_idxOf il], ?_⟩
    unfold logAt
    rw [List.getElem?_eq_getElem il2]; rfl
  have nd : (((housesIn S).zip logs).map (·.1)).Nodup := by
    rw [List.map_fst_zip (by omega)]
    exact houses_nodup S
  exact (foundT_look wf hs _ [] nd).1 _ pm rfl
theorem foundT_len {S : Setup} (wf : SW S) : ∀ (ps : List (W × Log)) (acc : List (W × D)), (foundT S ps acc).length ≤ acc.length + 3 * ps.length
  | [], acc => Nat.le_refl _
  | p :: r, acc => by
    have z := foundT_len wf r (mergeW acc (dC (counts S p.2 p.1)))
    have y := mergeW_len (dC (counts S p.2 p.1)) acc
    have x : (dC (counts S p.2 p.1)).length ≤ 3 := by
      have := congrArg List.length (dC_keys (counts S p.2 p.1))
      rw [List.length_map] at this
      rw [this, counts_keys, List.length_map]
      exact Nat.le_trans (List.length_filter_le _ _) wf.l1
    show (foundT S r (mergeW acc (dC (counts S p.2 p.1)))).length ≤ _
    rw [List.length_cons]
    omega
def coinRow (S : Setup) (bank : Log) (b : Buy) : List Int := row3 b.2 (cG bank S.2.1 (fun _ _ => 0) b.1)
theorem DE_tail {X : Cx} {J : Jn} {env : List SL} {a b : Expr} {p : Pos} {d : D} {xs : List D} (ha : DE X J env a d) (hb : DE X J env b (.lst xs)) (h1 : starEach [a, .Starred b p] X.env = (false, eval a X.env) :: starEach [.Starred b p] X.env := by rfl) (h2 : starEach [.Starred b p] X.env = (true, eval b X.env) :: starEach [] X.env := by rfl) : DA X J env [a, .Starred b p] (d :: xs) := by
  have z := da_cons ha (da_star hb (.lst _) da_nil h2) h1
  rw [List.append_nil] at z
  exact z
section
variable {P : Program} {w : World} {K : PySem.W.Frag} {mg : Str → Option Value} {base : Heap}
theorem sc_things_in : FnScope ["setup", "state", "found", "house", "log", "supply"] ["setup", "state"] (defScope (top 66)) := ⟨rfl, rfl, rfl, by decide +kernel, rfl, by decide +kernel, by decide +kernel⟩
theorem cal_things_in (T : Txt K mg) : Cal P w K mg base "things_in" 4 ["setup", "state"] (spT K J0 (fun a : Setup × State => [enc a.1, enc a.2]) (fun a => SW a.1 ∧ a.2.2.2.1.length = (housesIn a.1).length) (fun a d => d = .tup (a.1.1.map fun s => .tup (enc s.1 :: (thingRow a.1 a.2.2.2.1 s).map D.int)))) := by
  refine cal_of T.d_things_in fun f fd F => fn_ok F sc_things_in (fun _ => rfl) fun cdv A outer s H E a hr pre => ?_
  obtain ⟨S, log, heard, logs, bank, letters⟩ := a
  obtain ⟨wf, hl⟩ := pre
  have wf' : SW S := wf
  have hl' : logs.length = (housesIn S).length := hl
  have l1 : S.1.length ≤ 3 := wf'.l1
  have hh : (housesIn S).length ≤ 2 := wf'.hh
  rw [startE_lit 4 rfl]
  show DB _ _ [.d (enc S), .d (enc (log, heard, logs, bank, letters)), .no, .no, .no, .no] _ _ (fun d => d = .tup (S.1.map fun s => .tup (enc s.1 :: (thingRow S logs s).map D.int)))
  refine db_cons (ds_setS (i := 2) se_dict0 sc_things_in.nd (fun x e => ?_))
  subst e
  show DB _ _ [.d (enc S), .d (enc (log, heard, logs, bank, letters)), .own (.dct []), .no, .no, .no] _ _ _
  refine db_cons (ds_for (xs := (housesIn S).zip logs) (f := fun p => .tup [enc p.1, enc p.2]) (t := .tp [3, 4]) (di_zipW T.f_zip (c_houses_in T (hr.mono (by decide)) (x := S) (de_var (i := 0) rfl) (by omega)) (de_ixn 2 (ds := [enc log, enc heard, enc logs, enc bank, enc letters]) (de_var (i := 1) rfl) rfl) (.lst _) (.tup _))
    (fun i env => ∃ x3 x4, env = [.d (enc S), .d (enc (log, heard, logs, bank, letters)), .own (.dct (wd (foundT S (((housesIn S).zip logs).take i) []))), x3, x4, .no]) ⟨_, _, rfl⟩ ?_ ?_ ?_ PassesOwn.never)
  · rintro i p _ hp ⟨x3, x4, rfl⟩
    refine ⟨_, .tp _ _ _ rfl, ?_⟩
    show DB _ _ [.d (enc S), .d (enc (log, heard, logs, bank, letters)), .own (.dct (wd (foundT S (((housesIn S).zip logs).take i) []))), .d (enc p.1), .d (enc p.2), .no] _ _ _
    have n1 := foundT_len wf' (((housesIn S).zip logs).take i) []
    rw [List.length_take, List.length_zip, List.length_nil] at n1
    have n2 : (dC (counts S p.2 p.1)).length ≤ 3 := by
      have := congrArg List.length (dC_keys (counts S p.2 p.1))
      rw [List.length_map] at this
      rw [this, counts_keys, List.length_map]
      exact Nat.le_trans (List.length_filter_le _ _) wf'.l1
    refine db_cons (ds_update (i := 2) (kvs := foundT S (((housesIn S).zip logs).take i) []) (more := dC (counts S p.2 p.1)) rfl (c_counts_of T (hr.mono (by decide)) (x := S) (y := p.2) (z := p.1) (de_var (i := 0) rfl) (de_var (i := 4) rfl) (de_var (i := 3) rfl) wf') (by omega) ?_)
    refine db_nil ⟨.d (enc p.1), .d (enc p.2), ?_⟩
    have e : foundT S (((housesIn S).zip logs).take (i + 1)) [] = mergeW (foundT S (((housesIn S).zip logs).take i) []) (dC (counts S p.2 p.1)) := by
      unfold foundT; rw [take_succ_of hp, List.foldl_append]; rfl
    rw [e]
    rfl
  · rintro _ ⟨x3, x4, rfl⟩
    rw [List.take_length]
    refine db_cons (ds_retD (de_tuple T.f_tuple (de_fe (df_lc0 (xs := S.1) (f := enc) (g := fun s => .tup (enc s.1 :: (thingRow S logs s).map D.int)) (t := .nm 5) (own := [("supply", 5)]) (di_tup (de_ixn 0 (de_var (i := 0) rfl) rfl)) rfl sc_things_in.nd (blkOk_by (N := ["setup", "state", "found", "house", "log", "supply"]) (sc := defScope (top 66)) (by decide +kernel)) (by decide) (fun _ _ _ _ _ => (pg_name (i := 5) sc_things_in.nd rfl (Or.inl rfl))) (fun _ => .nm _ _ _)
      (fun _ _ _ _ _ x hx => ?_) (small (m := 3) l1)))) rfl)
    refine de_tup (DE_tail (xs := (thingRow S logs x).map D.int) (de_ixn 0 (de_var (i := 5) rfl) rfl) (de_dget hr (kvs := foundT S ((housesIn S).zip logs) []) (w := x.1) (de_var (i := 2) rfl) (de_ixn 0 (de_var (i := 5) rfl) rfl) (foundT_row wf' hl' hx))) (by show 4 + 1 ≤ 1000; decide)
  · exact (pg_tup rfl (pgs_cons (pg_name (i := 3) sc_things_in.nd rfl (Or.inl rfl)) (pgs_cons (pg_name (i := 4) sc_things_in.nd rfl (Or.inl rfl)) pgs_nil)))
theorem sc_coins_in : FnScope ["setup", "state", "found", "buyer"] ["setup", "state"] (defScope (top 67)) := ⟨rfl, rfl, rfl, by decide +kernel, rfl, by decide +kernel, by decide +kernel⟩
theorem cal_coins_in (T : Txt K mg) : Cal P w K mg base "coins_in" 3 ["setup", "state"] (spT K J0 (fun a : Setup × State => [enc a.1, enc a.2]) (fun a => SW a.1) (fun a d => d = .tup (a.1.2.2.map fun s => .tup (enc s.1 :: (coinRow a.1 a.2.2.2.2.1 s).map D.int)))) := by
  refine cal_of T.d_coins_in fun f fd F => fn_ok F sc_coins_in (fun _ => rfl) fun cdv A outer s H E a hr pre => ?_
  obtain ⟨S, log, heard, logs, bank, letters⟩ := a
  have wf : SW S := pre
  have l3 : S.2.2.length ≤ 2 := wf.l3
  show DB _ _ [.d (enc S), .d (enc (log, heard, logs, bank, letters)), .no, .no] _ _ (fun d => d = .tup (S.2.2.map fun s => .tup (enc s.1 :: (coinRow S bank s).map D.int)))
  refine db_cons (ds_setD (i := 2) (c_coins_of T (hr.mono (by decide)) (x := S) (y := bank) (de_var (i := 0) rfl) (de_ixn 3 (ds := [enc log, enc heard, enc logs, enc bank, enc letters]) (de_var (i := 1) rfl) rfl) wf) sc_coins_in.nd ?_)
  refine db_cons (ds_retD (de_tuple T.f_tuple (de_fe (df_lc0 (xs := S.2.2) (f := enc) (g := fun s => .tup (enc s.1 :: (coinRow S bank s).map D.int)) (t := .nm 3) (own := [("buyer", 3)]) (di_tup (de_ixn 2 (de_var (i := 0) rfl) rfl)) rfl sc_coins_in.nd (blkOk_by (N := ["setup", "state", "found", "buyer"]) (sc := defScope (top 67)) (by decide +kernel)) (by decide) (fun _ _ _ _ _ => (pg_name (i := 3) sc_coins_in.nd rfl (Or.inl rfl))) (fun _ => .nm _ _ _)
    (fun _ _ _ _ _ x hx => ?_) (small (m := 2) l3)))) rfl)
  refine de_tup (DE_tail (xs := (coinRow S bank x).map D.int) (de_ixn 0 (de_var (i := 3) rfl) rfl) (de_dget hr (kvs := dC (coins S bank)) (w := x.1) (de_var (i := 2) rfl) (de_ixn 0 (de_var (i := 3) rfl) rfl) ?_)) (by show 3 + 1 ≤ 1000; decide)
  rw [dC_look]
  unfold coins
  rw [kv3_look wf _ hx]
  rfl
end
section
variable {X : Cx} {J : Jn} {env : List SL} {a b c d e f : Expr} {pos p : Pos}
theorem c_things_in (T : Txt X.K X.mg) (hr : Room 4 X.A) {x : Setup} {y : State} (ha : DE X J env a (enc x)) (hb : DE X J env b (enc y)) (h1 : SW x) (h2 : y.2.2.1.length = (housesIn x).length) (hg : Gl X "things_in" := by rfl) (s0 : starEach [a, b] X.env = (false, eval a X.env) :: starEach [b] X.env := by rfl) (s1 : starEach [b] X.env = (false, eval b X.env) :: starEach [] X.env := by rfl) (hpl : (backTo pos (starEach [b] X.env)).any (·.1) = false := by rfl) :
    DE X J env (.Call (.Name "things_in" p) [a, b] [] pos) (.tup (x.1.map fun s => .tup (enc s.1 :: (thingRow x y.2.2.1 s).map D.int))) := cal_de (cal_things_in T) hr (x, y) (da_cons ha (da_cons hb da_nil s1) s0) ⟨h1, h2⟩ hg s0 hpl
theorem c_coins_in (T : Txt X.K X.mg) (hr : Room 3 X.A) {x : Setup} {y : State} (ha : DE X J env a (enc x)) (hb : DE X J env b (enc y)) (h1 : SW x) (hg : Gl X "coins_in" := by rfl) (s0 : starEach [a, b] X.env = (false, eval a X.env) :: starEach [b] X.env := by rfl) (s1 : starEach [b] X.env = (false, eval b X.env) :: starEach [] X.env := by rfl) (hpl : (backTo pos (starEach [b] X.env)).any (·.1) = false := by rfl) :
    DE X J env (.Call (.Name "coins_in" p) [a, b] [] pos) (.tup (x.2.2.map fun s => .tup (enc s.1 :: (coinRow x y.2.2.2.1 s).map D.int))) := cal_de (cal_coins_in T) hr (x, y) (da_cons ha (da_cons hb da_nil s1) s0) h1 hg s0 hpl
end
end Sh
/-! Sh19: own dicts by comprehension; for a, b in d.items(). -/
namespace Sh
open PySem PySem.Spec PyProof.Rows L2
open En (enc)
/-! ### a locked dict unlocked: data stay data -/
section
variable {K : PySem.W.Frag} {G : Hp} {p : Addr} {od : Obj} {us : List (Key × V)}
theorem ne_frz (hp : G p = some (.frz od (.dK us))) {a : Addr} {o : HO} (h : G a = some o) (n : o ≠ .frz od (.dK us)) : a ≠ p := fun z => by
  rw [z, hp] at h; exact n (Option.some.inj h).symm
theorem sqT_unl (hp : G p = some (.frz od (.dK us))) {a : Addr} {xs : List V} (h : SqT K G a xs) : SqT K (upd G p (.dK us)) a xs := by
  rcases h with (h | ⟨o, h⟩) | h
  · exact .inl (.inl (by rw [upd_ne (ne_frz hp h fun z => by cases z)]; exact h))
  · exact .inl (.inr ⟨o, by rw [upd_ne (ne_frz hp h fun z => by cases z)]; exact h⟩)
  · exact .inr h
theorem rd_unl (hp : G p = some (.frz od (.dK us))) {a : Addr} {xs : List (Key × V)} (h : Rd G a (.dK xs)) : Rd (upd G p (.dK us)) a (.dK xs) := by
  rcases h with h | ⟨o, h⟩
  · exact .inl (by rw [upd_ne (ne_frz hp h fun z => by cases z)]; exact h)
  · by_cases q : a = p
    · rw [q] at h ⊢
      rw [hp] at h
      cases h
      exact .inl upd_same
    · exact .inr ⟨o, by rw [upd_ne q]; exact h⟩
mutual
theorem Is.unl (hp : G p = some (.frz od (.dK us))) : ∀ {v : V} {d : D}, Is K G v d → Is K (upd G p (.dK us)) v d
  | _, _, .non => .non
  | _, _, .bl b => .bl b
  | _, _, .int i => .int i
  | _, _, .str x => .str x
  | _, _, .lst h a => .lst (by rw [upd_ne (ne_frz hp h fun z => by cases z)]; exact h) (IsAll.unl hp a)
  | _, _, .tup h a => .tup (sqT_unl hp h) (IsAll.unl hp a)
  | _, _, .dct h a => .dct (rd_unl hp h) (IsKV.unl hp a)
  | _, _, .raw v => .raw v
  | _, _, .ptup h n a => .ptup (by rw [upd_ne (ne_frz hp h fun z => by cases z)]; exact h) n (IsAll.unl hp a)
theorem IsAll.unl (hp : G p = some (.frz od (.dK us))) : ∀ {vs : List V} {ds : List D}, IsAll K G vs ds → IsAll K (upd G p (.dK us)) vs ds
  | _, _, .nil => .nil
  | _, _, .cons h t => .cons (Is.unl hp h) (IsAll.unl hp t)
theorem IsKV.unl (hp : G p = some (.frz od (.dK us))) : ∀ {vs : List (Key × V)} {ds : List (Key × D)}, IsKV K G vs ds → IsKV K (upd G p (.dK us)) vs ds
  | _, _, .nil => .nil
  | _, _, .cons h t => .cons (Is.unl hp h) (IsKV.unl hp t)
end
theorem DlOk.unl (hp : G p = some (.frz od (.dK us))) {H H1 : Hp} : ∀ {vs : List (Key × V)} {qs : List Addr} {kvs : List (Key × List D)}, DlOk K G H vs qs kvs → (∀ q ∈ qs, ∀ o, H q = some o → H1 q = some o) → DlOk K (upd G p (.dK us)) H1 vs qs kvs
  | _, _, _, .nil, _ => .nil
  | _, _, _, .cons h a t, k => .cons (k _ (.head _) _ h) (a.unl hp) (DlOk.unl hp t fun q hq => k q (.tail _ hq))
theorem OwOk.unl (hp : G p = some (.frz od (.dK us))) {H H1 : Hp} {l : Addr} {as : List Addr} {w : OW} (h : OwOk K G H l as w) (k : ∀ a ∈ as, ∀ o, H a = some o → H1 a = some o) : OwOk K (upd G p (.dK us)) H1 l as w := by
  cases w with
  | lst xs => obtain ⟨ea, vs, e, a⟩ := h; subst ea; exact ⟨rfl, vs, k l (by simp) _ e, a.unl hp⟩
  | dct xs => obtain ⟨ea, vs, e, a⟩ := h; subst ea; exact ⟨rfl, vs, k l (by simp) _ e, a.unl hp⟩
  | dl kvs =>
    obtain ⟨vs, qs, ea, nd, e, a⟩ := h
    subst ea
    exact ⟨vs, qs, rfl, nd, k l (by simp) _ e, a.unl hp fun q hq o ho => k q (.tail _ hq) o ho⟩
  | gen bs ds mk =>
    obtain ⟨ea, hb, vs, al, ob⟩ := h
    subst ea
    exact ⟨rfl, hb, vs, al.unl hp, fun j a ha => let ⟨o, h1, h2, h3⟩ := ob j a ha; ⟨o, h1, k a (List.mem_of_getElem? ha) o h2, h3⟩⟩
end
section
variable {K : PySem.W.Frag} {J : Jn} {G0 H0 G H : Hp} {env : List SL} {σ : L2.St}
/-- an own dict locked: it becomes data -/
theorem StG.lockD (s : StG K J G0 H0 env σ H G) {i : Nat} {kvs : List (Key × D)} (e : env[i]? = some (.own (.dct kvs))) : ∃ p us, σ[i]? = some (some (.ref p)) ∧ H p = some (.dK us) ∧ H0 p = none ∧ G p = none ∧ IsKV K G us kvs ∧
    ∀ od, StG K J G0 H0 (env.set i (.d (.dct kvs))) σ (upd H p (.frz od (.dK us))) (upd G p (.frz od (.dK us))) := by
  obtain ⟨ad, h1, h2, h3⟩ := s.sl
  obtain ⟨p, e2, ⟨ea, us, hp, al⟩, f⟩ := h1 i _ e
  have hm : p ∈ ad i := by rw [ea]; simp
  have h0 := (f p hm).1
  have g0 := (f p hm).2
  have hi : i < env.length := (List.getElem?_eq_some_iff.mp e).1
  refine ⟨p, us, e2, hp, h0, g0, al, fun od => ?_⟩
  have gg : Same G (upd G p (.frz od (.dK us))) := fun a o q => by rw [upd_ne (ne_of_none q g0)]; exact q
  refine ⟨⟨s.up.g.trans gg, fun a x q => ?_, fun a x m q => ?_, fun a n => ?_, fun a n n2 => ?_, J.st _ _ s.up.inv fun a m => ?_⟩, s.al0, by rw [List.length_set]; exact s.len, put ad i [], fun j sl q => ?_, fun j l a n m1 m2 => ?_, fun j hj => ?_⟩
  · by_cases z : a = p
    · rw [z, upd_same] at q ⊢; exact q
    · rw [upd_ne z] at q ⊢; exact s.bs.gh a x q
  · rw [upd_ne (ne_of_none q h0)]; exact s.up.h a x m q
  · by_cases z : a = p
    · rw [z, upd_same]; simp
    · rw [upd_ne z]; exact s.up.fr a n
  · rw [upd_ne fun z => n2 (by rw [z]; exact h0)]; exact s.up.hid a n n2
  · exact upd_ne fun z => (s.al0 a m).1 (by rw [z]; exact h0)
  · by_cases z : j = i
    · subst z
      rw [List.getElem?_set_self hi] at q
      cases q
      rw [put_same]
      exact ⟨rfl, .ref p, e2, .dct (.inr ⟨od, upd_same⟩) (al.mono gg)⟩
    · rw [List.getElem?_set_ne (Ne.symm z)] at q
      rw [put_ne z]
      have y := h1 j sl q
      cases sl with
      | no => exact y
      | d x => obtain ⟨y1, v, y2, r⟩ := y; exact ⟨y1, v, y2, r.mono gg⟩
      | own w =>
        obtain ⟨l, y1, r, g⟩ := y
        have off : ∀ a ∈ ad j, a ≠ p := fun a ha y => h2 j i a z ha (by rw [y]; exact hm)
        exact ⟨l, y1, r.ext gg fun a ha o ho => by rw [upd_ne (off a ha)]; exact ho, fun a ha => ⟨(g a ha).1, by rw [upd_ne (off a ha)]; exact (g a ha).2⟩⟩
  · by_cases z : j = i
    · rw [z, put_same] at m1; cases m1
    · by_cases y : l = i
      · rw [y, put_same] at m2; cases m2
      · rw [put_ne z] at m1; rw [put_ne y] at m2; exact h2 j l a n m1 m2
  · by_cases z : j = i
    · rw [z, put_same]
    · rw [put_ne z]; exact h3 j (by rw [List.length_set] at hj; exact hj)
variable {GL G1 H1 : Hp} {env1 : List SL} {σ1 : L2.St} {p : Addr} {od : Obj} {us : List (Key × V)}
theorem Up.unl (s : StG K J G0 H0 env σ H G) (h0 : H0 p = none) (g0 : G p = none) (u : Up J (upd G p (.frz od (.dK us))) H0 G1 H1) : Up J G0 H0 (upd G1 p (.dK us)) (upd H1 p (.dK us)) := by
  have gp : G1 p = some (.frz od (.dK us)) := u.g p _ upd_same
  refine ⟨fun a o e => ?_, fun a x q => ?_, fun a x m q => ?_, fun a n => ?_, fun a n n2 => ?_, J.st _ _ u.inv fun a m => ?_⟩
  · have n : a ≠ p := fun z => by rw [z] at e; have := s.up.g p _ e; rw [g0] at this; cases this
    rw [upd_ne n]
    exact u.g a o (by rw [upd_ne n]; exact s.up.g a o e)
  · by_cases z : a = p
    · rw [z, upd_same] at q ⊢; exact q
    · rw [upd_ne z] at q ⊢; exact u.gh a x q
  · rw [upd_ne (ne_of_none q h0)]; exact u.h a x m q
  · by_cases z : a = p
    · rw [z, upd_same]; simp
    · rw [upd_ne z]; exact u.fr a n
  · have z : a ≠ p := fun z => n2 (by rw [z]; exact h0)
    rw [upd_ne z]
    exact u.hid a (by rw [upd_ne z]; exact s.up.hid a n n2) n2
  · exact upd_ne fun z => (s.al0 a m).1 (by rw [z]; exact h0)
theorem StG.unlock (s : StG K J G0 H0 env σ H G) (h0 : H0 p = none) (g0 : G p = none) (t : StG K J (upd G p (.frz od (.dK us))) H0 env1 σ1 H1 G1) : StG K J G0 H0 env1 σ1 (upd H1 p (.dK us)) (upd G1 p (.dK us)) := by
  have gp : G1 p = some (.frz od (.dK us)) := t.up.g p _ upd_same
  obtain ⟨ad, h1, h2, h3⟩ := t.sl
  refine ⟨Up.unl s h0 g0 t.up, s.al0, t.len, ad, fun j sl q => ?_, h2, h3⟩
  have y := h1 j sl q
  cases sl with
  | no => exact y
  | d x => obtain ⟨y1, v, y2, r⟩ := y; exact ⟨y1, v, y2, r.unl gp⟩
  | own w =>
    obtain ⟨l, y1, r, g⟩ := y
    have off : ∀ a ∈ ad j, a ≠ p := fun a ha y => by have := (g a ha).2; rw [y, gp] at this; cases this
    exact ⟨l, y1, r.unl gp fun a ha o ho => by rw [upd_ne (off a ha)]; exact ho, fun a ha => ⟨(g a ha).1, by rw [upd_ne (off a ha)]; exact (g a ha).2⟩⟩
end
section
variable {X : Cx} {J : Jn} {env : List SL} {tg : Expr} {body : List Stmt} {Φ : List SL → Prop} {Ψ : D → Prop} {pos npos apos cpos : Pos} {t : Tgt} {elts : List Expr} {kk : Nat} {tpos : Pos}
theorem isKV_get {K : PySem.W.Frag} {G : Hp} : ∀ {kvs : List (W × D)} {us : List (Key × V)} {i : Nat} {k : Key} {v : V}, IsKV K G us (wd kvs) → us[i]? = some (k, v) → ∃ q, kvs[i]? = some q ∧ k = kW q.1 ∧ Is K G v q.2
  | [], _, i, _, _, h, e => by cases h; simp at e
  | q :: r, _, 0, _, _, .cons h t, e => by
    simp at e
    obtain ⟨e1, e2⟩ := e
    exact ⟨q, rfl, e1.symm, by rw [← e2]; exact h⟩
  | q :: r, _, i + 1, _, _, .cons h t, e => by
    obtain ⟨q', h1, h2⟩ := isKV_get (i := i) t (by simpa using e)
    exact ⟨q', by simpa using h1, h2⟩
/-- for a, b in d.items(), d own; behind it d is data -/
theorem ds_forItems {kvs : List (W × D)} {i : Nat} {n : Str} (ho : env[i]? = some (.own (.dct (wd kvs)))) (Iv : Nat → List SL → Prop) (h0 : Iv 0 (env.set i (.d (.dct (wd kvs)))))
    (hstep : ∀ j x env1, kvs[j]? = some x → Iv j env1 → ∃ env2, TSt t (.tup [enc x.1, x.2]) env1 env2 ∧ DB X J env2 body (Iv (j + 1)) Ψ) (hd : ∀ env', Iv kvs.length env' → Φ env')
    (hg : PG X (.Tuple elts kk tpos) (t.g X.K)) (hp : PassesOwn (model X.prog X.w) X.A X.env X.xe) (hN : X.N[i]? = some n := by rfl) (hv : Vis X.env.scope n := by first | exact Or.inl rfl | exact Or.inr (Or.inl rfl) | exact Or.inr (Or.inr rfl))
    (hdb : (n == ("__debug__" : Str)) = false := by decide) (hcd : (n == ("__classdict__" : Str)) = false := by decide) (hbase : attributeBase (.Name n npos) "items" X.env (eval (.Name n npos) X.env) = eval (.Name n npos) X.env := by rfl) (hline : (apos.endLine == cpos.line) = true := by rfl)
    (hc : X.calm = true := by rfl) (hs : ∀ x, foldedSetIterable (.Call (.Attribute (.Name n npos) "items" apos) [] [] cpos) X.env x = pure x := by intro _; rfl) : DS X J env (.For (.Tuple elts kk tpos) (.Call (.Attribute (.Name n npos) "items" apos) [] [] cpos) body [] pos) Φ Ψ := fun G0 H0 σ H G Dn s q r => by
  obtain ⟨p, us, e2, hpu, hp0, gp0, al, lk⟩ := s.lockD ho
  refine wpS_of (ps_lock (ps_for (wi := iItems (tVar i)) (g := t.g X.K) (tb := wpB X body) hp hc (pi_items (pe_var hN hv hdb hcd) hbase hline) hg pss_wp hs)) ?_
  refine ⟨p, .dK us, hpu, trivial, fun od => ?_⟩
  have sL := lk od
  have gL : (upd G p (.frz od (.dK us))) p = some (.frz od (.dK us)) := upd_same
  have lus : us.length = kvs.length := by rw [isKV_len al, wd_len]
  refine ⟨.ref p, e2, p, od, us, rfl, upd_same, ?_⟩
  refine ⟨fun j m σ' H' => m = kvs.length - j ∧ j ≤ kvs.length ∧ ∃ env' G', Iv j env' ∧ StG X.K J (upd G p (.frz od (.dK us))) H0 env' σ' H' G', ⟨_, rfl, Nat.zero_le _, _, _, h0, sL.rebase⟩, ?_⟩
  rintro j m σ' H' ⟨rfl, hj, env', G', iv, s'⟩
  have hpl : H' p = some (.frz od (.dK us)) := s'.up.gh p _ (s'.up.g p _ upd_same)
  by_cases hlt : j < kvs.length
  · right
    refine ⟨⟨hpl, by omega⟩, fun σ2 H2 => ∃ env2 G2, Iv (j + 1) env2 ∧ StG X.K J (upd G p (.frz od (.dK us))) H0 env2 σ2 H2 G2, fun σ2 H2 z => ⟨_, by omega, rfl, hlt, z⟩, fun x H2 hy => ?_⟩
    obtain ⟨T, k, v, eu, rfl, hT, rfl⟩ := hy
    obtain ⟨x, hx, rfl, rx⟩ := isKV_get al eu
    have gg : Same G (upd G p (.frz od (.dK us))) := fun a o q => by rw [upd_ne (ne_of_none q gp0)]; exact q
    have rx2 := (rx.mono gg).mono s'.up.g
    have un := Up.new s'.bs (o := .tup [kV (kW x.1), v]) hT
    obtain ⟨env2, ts, hb⟩ := hstep j x env' hx iv
    refine tgt_run (s'.ext un) (.tup (.inl (.inl upd_same)) (.cons (.str x.1.s) (.cons (rx2.mono un.g) .nil))) ts fun σ2 _ s2 => ?_
    exact hb _ H0 σ2 _ _ _ s2 (fun env3 σ3 H3 G3 p3 s3 => ⟨env3, G3, p3, s3⟩) fun v d G3 H3 u3 i3 p3 => ⟨u3.gh p _ (u3.g p _ upd_same), r v d _ _ (Up.unl s hp0 gp0 u3) (i3.unl (u3.g p _ upd_same)) p3⟩
  · left
    have e : j = kvs.length := by omega
    subst e
    exact ⟨⟨hpl, by omega⟩, hpl, q env' σ' _ _ (hd env' iv) (s.unlock hp0 gp0 s')⟩
theorem se_dc {α : Type} {kx vx tg iter : Expr} {ifs : List Expr} {scope : Scope} {own : List (Str × Nat)} {xs : List α} {f : α → D} {p : α → Bool} {kw : α → W} {g : α → D} {env' : α → List SL} (hi : DI X J env tg iter (xs.map f)) (hc : X.calm = true) (hN : X.N.Nodup) (ok : BlkOk X.N X.env.scope scope own) (hsl : ∀ i ∈ t.slots, i ∈ own.map (·.2))
    (hg : blkX X scope fun X' => PG X' tg (t.g X'.K)) (he' : ∀ x, TSt t (f x) (wipeE env (own.map (·.2))) (env' x)) (ht : blkX X scope fun X' => ∀ x ∈ xs, DTs X' J (env' x) ifs (p x)) (hk : blkX X scope fun X' => ∀ x ∈ xs, p x = true → DE X' J (env' x) kx (enc (kw x))) (hel : blkX X scope fun X' => ∀ x ∈ xs, p x = true → DE X' J (env' x) vx (g x))
    (hl : xs.length < sizeLine) (nd : ((xs.filter p).map kw).Nodup) (hs : ∀ x, foldedSetIterable iter X.env x = pure x := by intro _; rfl) : DSE X J env (.DictComp kx vx [⟨tg, iter, ifs, 0⟩] scope pos) (.own (.dct (wd ((xs.filter p).map fun x => (kw x, g x))))) := fun G0 H0 σ H G Q s q => by
  refine wp_of (pe_dc (wi := wpI X tg iter) (g := t.g X.K) (tt := ttB X ifs scope) (tk := teB X kx scope) (tv := teB X vx scope) hc hN pi_wp ok hg (fun s' H' C cl fp => ⟨fun pins st σ H Q I h => h s' H' C cl fp pins st I⟩) (fun s' H' C cl fp => ⟨fun pins st σ H Q I h => h s' H' C cl fp pins st I⟩) (fun s' H' C cl fp => ⟨fun pins st σ H Q I h => h s' H' C cl fp pins st I⟩) hs) ?_
  refine dc_read hi hsl he' ht hk hel hl s fun p' vs G1 H1 u h1 h2 h3 al => ?_
  have z := foldl_putW ((xs.filter p).map fun x => (kw x, g x)) [] (by rw [List.nil_append, List.map_map]; exact nd)
  rw [List.nil_append] at z
  rw [z] at al
  exact q (.ref p') (.own (.dct _)) [p'] G1 H1 u ⟨p', rfl, rfl, vs, h3, al⟩ (fun a ha => by rw [List.mem_singleton.mp ha]; exact ⟨h1, h2⟩) rfl
end
end Sh
/-! A14: end_faults. -/
namespace Sh
open PySem PySem.Spec PyProof.Rows L2
open En (enc)
def iff1 {α : Type} (b : Bool) (x : α) : List α := if b = true then [x] else []
theorem iff1_len {α : Type} (b : Bool) (x : α) : (iff1 b x).length ≤ 1 := by cases b <;> first | exact Nat.zero_le _ | exact Nat.le_refl _
theorem iff1_nil {α : Type} {b : Bool} {x : α} : iff1 b x = [] ↔ b = false := by cases b <;> simp [iff1]
theorem set_same {α : Type} : ∀ {l : List α} {i : Nat} {x : α}, l[i]? = some x → l.set i x = l
  | _ :: _, 0, _, h => by simp at h; rw [h]; rfl
  | a :: l, i + 1, x, h => by
    show a :: l.set i x = a :: l
    rw [set_same (l := l) (by simpa using h)]
/-- if c: found.append(e) -/
theorem ds_ifApp {X : Cx} {J : Jn} {env : List SL} {c e : Expr} {pos pos2 npos apos cpos : Pos} {Φ : List SL → Prop} {Ψ : D → Prop} {α : Type} [En α] {b : Bool} {acc : List α} {x : α} {i : Nat} {n : Str} (ho : env[i]? = some (.own (.lst (acc.map enc)))) (hc : DT X J env c b) (he : DE X J env e (enc x)) (hz : acc.length < 1000) (k : Φ (env.set i (.own (.lst ((acc ++ iff1 b x).map enc))))) (hN : X.N[i]? = some n := by rfl) (hv : Vis X.env.scope n := by first | exact Or.inl rfl | exact Or.inr (Or.inl rfl) | exact Or.inr (Or.inr rfl))
    (hd : (n == ("__debug__" : Str)) = false := by decide) (hcd : (n == ("__classdict__" : Str)) = false := by decide) (hbase : attributeBase (.Name n npos) "append" X.env (eval (.Name n npos) X.env) = eval (.Name n npos) X.env := by rfl)
    (hfew : ((backTo cpos (starEach [e] X.env)).all (fun x => !x.1) && (backToKw cpos (keywordEach [] X.env)).all (fun x => x.1.isSome) && decide ([e].length + ([] : List Keyword).length + (if ([] : List Keyword).isEmpty then 0 else 1) < 30)) = true := by rfl)
    (hline : (apos.endLine == cpos.line) = true := by rfl) (hs : starEach [e] X.env = (false, eval e X.env) :: starEach [] X.env := by rfl) (hplain : (backTo cpos (starEach [] X.env)).any (·.1) = false := by rfl)
    (hsw : swapsWith (.Call (.Attribute (.Name n npos) "append" apos) [e] [] cpos) none pos2.line X.env = pure false := by rfl) : DS X J env (.If c [.Expr (.Call (.Attribute (.Name n npos) "append" apos) [e] [] cpos) pos2] [] pos) Φ Ψ := by
  refine ds_if hc (fun h => ?_) (fun h => ?_)
  · refine db_cons (ds_appendD ho he (small (m := 1000) (by rw [List.length_map]; omega)) (db_nil ?_) hN hv hd hcd hbase hfew hline hs hplain hsw)
    rw [h, List.map_append] at k
    exact k
  · refine db_nil ?_
    rw [h] at k
    have e : acc ++ iff1 false x = acc := List.append_nil _
    rw [e, set_same ho] at k
    exact k
abbrev Flt := W × W × W
def endB (shop : List W) (a b c d : W) (bank : List W) (rows : List (List W)) : Bool := decide (a ∈ shop) && (decide (b ∈ shop) && ((!decide (c ∈ bank)) || !(rows.all fun r => decide (d ∈ r))))
def endB3 (shop : List W) (bank : List W) (rows : List (List W)) : Bool := decide (W.returned ∈ shop) && ((!decide (W.refunded ∈ bank)) || !(rows.all fun r => decide (W.back ∈ r)))
def endFaults (shop : List W) (rows : List (List W)) (bank : List W) (d : W) : List Flt := (([] ++ iff1 (endB shop .ended .go .taken .sent bank rows) (.fin, .shop, d)) ++ iff1 (endB shop .ended .drop .freed .released bank rows) (.fin, .shop, d)) ++ iff1 (endB3 shop bank rows) (.back, .shop, d)
section
variable {P : Program} {w : World} {K : PySem.W.Frag} {mg : Str → Option Value} {base : Heap}
theorem sc_end_faults : FnScope ["shop", "rows", "bank", "deal", "found", "row"] ["shop", "rows", "bank", "deal"] (defScope (top 74)) := ⟨rfl, rfl, rfl, by decide +kernel, rfl, by decide +kernel, by decide +kernel⟩
theorem cal_end_faults (T : Txt K mg) : Cal P w K mg base "end_faults" 1 ["shop", "rows", "bank", "deal"] (spT K J0 (fun a : List W × List (List W) × List W × W => [enc a.1, encL a.2.1, enc a.2.2.1, enc a.2.2.2]) (fun a => a.2.1.length ≤ 1000) (fun a d => d = encL (endFaults a.1 a.2.1 a.2.2.1 a.2.2.2))) := by
  refine cal_of T.d_end_faults fun f fd F => fn_ok F sc_end_faults (fun _ => rfl) fun cdv A outer s H E a hr pre => ?_
  obtain ⟨shop, rows, bank, dl⟩ := a
  have hl : rows.length ≤ 1000 := pre
  rw [startE_lit 2 rfl]
  show DB _ _ [.d (enc shop), .d (encL rows), .d (enc bank), .d (enc dl), .no, .no] _ _ (fun d => d = encL (endFaults shop rows bank dl))
  have n1 := iff1_len (endB shop .ended .go .taken .sent bank rows) ((W.fin, W.shop, dl) : Flt)
  have n2 := iff1_len (endB shop .ended .drop .freed .released bank rows) ((W.fin, W.shop, dl) : Flt)
  refine db_cons (ds_setOD (i := 4) df_nil sc_end_faults.nd ?_)
  show DB _ _ [.d (enc shop), .d (encL rows), .d (enc bank), .d (enc dl), .own (.lst (([] : List Flt).map enc)), .no] _ _ _
  refine db_cons (ds_ifApp (i := 4) (b := endB shop .ended .go .taken .sent bank rows) (acc := ([] : List Flt)) (x := (W.fin, W.shop, dl)) rfl ?_ (de_tup (da_cons (de_W .fin) (da_cons (de_W .shop) (da_cons (de_var (i := 3) rfl) da_nil)))) (by decide) ?_)
  · exact (dt_w (dw_and (dt_in hr (x := W.ended) (ys := shop) (de_gW T.c_ENDED) (de_var (i := 0) rfl) (.tup _)) fun _ => (dw_and (dt_in hr (x := W.go) (ys := shop) (de_gW T.c_GO) (de_var (i := 0) rfl) (.tup _)) fun _ => (dw_and1 (dt_w (dw_or (dt_nin hr (x := W.taken) (ys := bank) (de_gW T.c_TAKEN) (de_var (i := 2) rfl) (.tup _)) fun _ => (dw_or1 (dt_not (dt_val (de_allF (xs := rows) (g := fun r => decide (W.sent ∈ r)) T.f_all (df_lc0 (xs := rows) (f := enc) (t := .nm 5) (own := [("row", 5)]) (di_lst (de_var (i := 1) rfl)) rfl sc_end_faults.nd (blkOk_by (N := ["shop", "rows", "bank", "deal", "found", "row"]) (sc := defScope (top 74)) (by decide +kernel)) (by decide) (fun _ _ _ _ _ => (pg_name (i := 5) sc_end_faults.nd rfl (Or.inl rfl))) (fun _ => .nm _ _ _) (fun _ _ _ _ _ x hx => (de_in hr (x := W.sent) (ys := x) (de_gW T.c_SENT) (de_var (i := 5) rfl) (.tup _))) (small (m := 1000) hl))))))))))))
  show DB _ _ [.d (enc shop), .d (encL rows), .d (enc bank), .d (enc dl), .own (.lst (([] ++ iff1 (endB shop .ended .go .taken .sent bank rows) ((W.fin, W.shop, dl) : Flt)).map enc)), .no] _ _ _
  refine db_cons (ds_ifApp (i := 4) (b := endB shop .ended .drop .freed .released bank rows) (acc := [] ++ iff1 (endB shop .ended .go .taken .sent bank rows) ((W.fin, W.shop, dl) : Flt)) (x := (W.fin, W.shop, dl)) rfl ?_ (de_tup (da_cons (de_W .fin) (da_cons (de_W .shop) (da_cons (de_var (i := 3) rfl) da_nil)))) (by rw [List.nil_append]; omega) ?_)
  · exact (dt_w (dw_and (dt_in hr (x := W.ended) (ys := shop) (de_gW T.c_ENDED) (de_var (i := 0) rfl) (.tup _)) fun _ => (dw_and (dt_in hr (x := W.drop) (ys := shop) (de_gW T.c_DROP) (de_var (i := 0) rfl) (.tup _)) fun _ => (dw_and1 (dt_w (dw_or (dt_nin hr (x := W.freed) (ys := bank) (de_gW T.c_FREED) (de_var (i := 2) rfl) (.tup _)) fun _ => (dw_or1 (dt_not (dt_val (de_allF (xs := rows) (g := fun r => decide (W.released ∈ r)) T.f_all (df_lc0 (xs := rows) (f := enc) (t := .nm 5) (own := [("row", 5)]) (di_lst (de_var (i := 1) rfl)) rfl sc_end_faults.nd (blkOk_by (N := ["shop", "rows", "bank", "deal", "found", "row"]) (sc := defScope (top 74)) (by decide +kernel)) (by decide) (fun _ _ _ _ _ => (pg_name (i := 5) sc_end_faults.nd rfl (Or.inl rfl))) (fun _ => .nm _ _ _) (fun _ _ _ _ _ x hx => (de_in hr (x := W.released) (ys := x) (de_gW T.c_RELEASED) (de_var (i := 5) rfl) (.tup _))) (small (m := 1000) hl))))))))))))
  generalize hacc : ([] ++ iff1 (endB shop .ended .go .taken .sent bank rows) ((W.fin, W.shop, dl) : Flt)) ++ iff1 (endB shop .ended .drop .freed .released bank rows) ((W.fin, W.shop, dl) : Flt) = acc
  have n3 : acc.length < 1000 := by rw [← hacc, List.nil_append, List.length_append]; omega
  show DB _ _ [.d (enc shop), .d (encL rows), .d (enc bank), .d (enc dl), .own (.lst (acc.map enc)), .no] _ _ _
  refine db_cons (ds_ifApp (i := 4) (b := endB3 shop bank rows) (acc := acc) (x := (W.back, W.shop, dl)) rfl ?_ (de_tup (da_cons (de_W .back) (da_cons (de_W .shop) (da_cons (de_var (i := 3) rfl) da_nil)))) n3 ?_)
  · exact (dt_w (dw_and (dt_in hr (x := W.returned) (ys := shop) (de_gW T.c_RETURNED) (de_var (i := 0) rfl) (.tup _)) fun _ => (dw_and1 (dt_w (dw_or (dt_nin hr (x := W.refunded) (ys := bank) (de_gW T.c_REFUNDED) (de_var (i := 2) rfl) (.tup _)) fun _ => (dw_or1 (dt_not (dt_val (de_allF (xs := rows) (g := fun r => decide (W.back ∈ r)) T.f_all (df_lc0 (xs := rows) (f := enc) (t := .nm 5) (own := [("row", 5)]) (di_lst (de_var (i := 1) rfl)) rfl sc_end_faults.nd (blkOk_by (N := ["shop", "rows", "bank", "deal", "found", "row"]) (sc := defScope (top 74)) (by decide +kernel)) (by decide) (fun _ _ _ _ _ => (pg_name (i := 5) sc_end_faults.nd rfl (Or.inl rfl))) (fun _ => .nm _ _ _) (fun _ _ _ _ _ x hx => (de_in hr (x := W.back) (ys := x) (de_gW T.c_BACK) (de_var (i := 5) rfl) (.tup _))) (small (m := 1000) hl)))))))))))
  refine db_cons (ds_retD (de_var (i := 4) rfl) ?_)
  rw [← hacc]
  rfl
end
section
variable {X : Cx} {J : Jn} {env : List SL} {a b c d e f : Expr} {pos p : Pos}
theorem c_end_faults (T : Txt X.K X.mg) (hr : Room 1 X.A) {x : List W} {y : List (List W)} {z : List W} {u : W} (ha : DE X J env a (enc x)) (hb : DE X J env b (encL y)) (hc : DE X J env c (enc z)) (hd : DE X J env d (enc u)) (h1 : y.length ≤ 1000) (hg : Gl X "end_faults" := by rfl) (s0 : starEach [a, b, c, d] X.env = (false, eval a X.env) :: starEach [b, c, d] X.env := by rfl) (s1 : starEach [b, c, d] X.env = (false, eval b X.env) :: starEach [c, d] X.env := by rfl) (s2 : starEach [c, d] X.env = (false, eval c X.env) :: starEach [d] X.env := by rfl) (s3 : starEach [d] X.env = (false, eval d X.env) :: starEach [] X.env := by rfl) (hpl : (backTo pos (starEach [b, c, d] X.env)).any (·.1) = false := by rfl) :
    DE X J env (.Call (.Name "end_faults" p) [a, b, c, d] [] pos) (encL (endFaults x y z u)) := cal_de (cal_end_faults T) hr (x, y, z, u) (da_cons ha (da_cons hb (da_cons hc (da_cons hd da_nil s3) s2) s1) s0) h1 hg s0 hpl
end
/-- what faults_in asks of the state's lengths -/
structure Ls (S : Setup) (st : State) : Prop where
  l1 : st.1.length ≤ 1000
  l2 : st.2.2.1.length = (housesIn S).length
  l3 : ∀ g ∈ st.2.2.1, g.length ≤ 1000
  l4 : st.2.2.2.1.length ≤ 1000
theorem hof_sub (S : Setup) (d : W) : ∀ (xs : List Sup) (acc : List W) (h : W), h ∈ hof S d xs acc → h ∈ acc ∨ ∃ s ∈ xs, s.2.1 = h ∧ partsAt S d h ≠ []
  | [], _, _, m => .inl m
  | p :: r, acc, h, m => by
    have z := hof_sub S d r (if p.2.1 ∉ acc ∧ partsAt S d p.2.1 ≠ [] then acc ++ [p.2.1] else acc) h m
    rcases z with z | ⟨s, hs, e⟩
    · split at z
      · rename_i c
        rcases List.mem_append.mp z with y | y
        · exact .inl y
        · exact .inr ⟨p, .head _, (List.mem_singleton.mp y).symm, by rw [List.mem_singleton.mp y]; exact c.2⟩
      · exact .inl z
    · exact .inr ⟨s, .tail _ hs, e⟩
theorem housesOf_sub {S : Setup} {d h : W} (m : h ∈ housesOf S d) : h ∈ housesIn S ∧ partsAt S d h ≠ [] := by
  rcases hof_sub S d S.1 [] h m with z | ⟨s, hs, e, z⟩
  · cases z
  · exact ⟨by rw [← e]; exact house_mem hs, z⟩
def rowsF (S : Setup) (logs : List Log) (d : W) : List (W × List W) := ((housesIn S).zip logs).map fun p => (p.1, rowOf p.2 d)
def rowAt (rows : List (W × List W)) (h : W) : List W := (lookW rows h).getD []
theorem rowsF_keys {S : Setup} {logs : List Log} (hl : logs.length = (housesIn S).length) (d : W) : (rowsF S logs d).map (·.1) = housesIn S := by
  unfold rowsF
  rw [List.map_map]
  show ((housesIn S).zip logs).map (·.1) = _
  rw [List.map_fst_zip (by omega)]
theorem look_there {α : Type} : ∀ {kvs : List (W × α)} {w : W}, w ∈ kvs.map (·.1) → ∃ x, lookW kvs w = some x
  | p :: r, w, h => by
    rw [lookW_cons]
    by_cases z : p.1 = w
    · exact ⟨_, by rw [if_pos z]⟩
    · rw [if_neg z]
      rcases List.mem_cons.mp h with y | y
      · exact absurd y.symm z
      · exact look_there y
theorem rowsF_look {S : Setup} {logs : List Log} (hl : logs.length = (housesIn S).length) {d h : W} (m : h ∈ housesIn S) : lookW ((rowsF S logs d).map fun p => (p.1, (enc p.2 : D))) h = some (enc (rowAt (rowsF S logs d) h)) := by
  obtain ⟨x, e⟩ := look_there (kvs := rowsF S logs d) (w := h) (by rw [rowsF_keys hl]; exact m)
  rw [lookW_map (f := (enc : List W → D)), e]
  unfold rowAt
  rw [e]
  rfl
def houseB1 (own : List W) (p : W × List W) : Bool := (!decide (p.2 ∈ hrows)) || ((!decide (p.2 = [])) && !decide (p.1 ∈ own))
def houseB2 (shop row : List W) : Bool := (decide (W.sent ∈ row) && !decide (W.go ∈ shop)) || ((decide (W.released ∈ row) && !decide (W.drop ∈ shop)) || (decide (W.back ∈ row) && !decide (W.ret ∈ shop)))
def houseF (shop own : List W) (d : W) (acc : List Flt) (p : W × List W) : List Flt := (acc ++ iff1 (houseB1 own p) (.order, p.1, d)) ++ iff1 (houseB2 shop p.2) (.choice, p.1, d)
theorem houseF_len (shop own : List W) (d : W) : ∀ (ps : List (W × List W)) (acc : List Flt), (ps.foldl (houseF shop own d) acc).length ≤ acc.length + 2 * ps.length
  | [], acc => Nat.le_refl _
  | p :: r, acc => by
    have z := houseF_len shop own d r (houseF shop own d acc p)
    have y : (houseF shop own d acc p).length ≤ acc.length + 2 := by
      have y1 := iff1_len (houseB1 own p) ((W.order, p.1, d) : Flt)
      have y2 := iff1_len (houseB2 shop p.2) ((W.choice, p.1, d) : Flt)
      unfold houseF
      rw [List.length_append, List.length_append]
      omega
    show (r.foldl _ (houseF shop own d acc p)).length ≤ _
    rw [List.length_cons]
    omega
def shopB (shop : List W) : Bool := (!decide (shop = [])) && !decide (shop ∈ rows0)
def bankB2 (shop bank : List W) : Bool := (decide (W.taken ∈ bank) && !decide (W.go ∈ shop)) || (decide (W.freed ∈ bank) && !decide (W.drop ∈ shop))
def bankB3 (shop bank : List W) : Bool := decide (W.refunded ∈ bank) && !decide (W.ret ∈ shop)
def earlyB (shop bank own : List W) (rows : List (W × List W)) : Bool := decide (W.go ∈ shop) && ((!decide (W.held ∈ bank)) || !(own.all fun h => decide (W.reserved ∈ rowAt rows h)))
def dealPre (shop bank own : List W) (rows : List (W × List W)) (d : W) : List Flt :=
  ((((rows.foldl (houseF shop own d) ([] ++ iff1 (shopB shop) (.order, .shop, d))) ++ iff1 (!decide (bank ∈ brows)) (.order, .bank, d)) ++ iff1 (bankB2 shop bank) (.choice, .bank, d)) ++ iff1 (bankB3 shop bank) (.choice, .bank, d)) ++ iff1 (earlyB shop bank own rows) (.early, .shop, d)
def dealFaults (S : Setup) (st : State) (d : W) : List Flt :=
  dealPre (rowOf st.1 d) (rowOf st.2.2.2.1 d) (housesOf S d) (rowsF S st.2.2.1 d) d ++ endFaults (rowOf st.1 d) ((housesOf S d).map (rowAt (rowsF S st.2.2.1 d))) (rowOf st.2.2.2.1 d) d
section
variable {P : Program} {w : World} {K : PySem.W.Frag} {mg : Str → Option Value} {base : Heap}
theorem sc_deal_faults : FnScope ["setup", "state", "deal", "shop", "found", "house", "rows", "bank", "own", "row", "log"] ["setup", "state", "deal"] (defScope (top 73)) := ⟨rfl, rfl, rfl, by decide +kernel, rfl, by decide +kernel, by decide +kernel⟩
theorem cal_deal_faults (T : Txt K mg) : Cal P w K mg base "deal_faults" 4 ["setup", "state", "deal"] (spT K J0 (fun a : Setup × State × W => [enc a.1, enc a.2.1, enc a.2.2]) (fun a => SW a.1 ∧ Ls a.1 a.2.1 ∧ a.2.2 ∈ a.1.2.1.map (·.1)) (fun a d => d = encL (dealFaults a.1 a.2.1 a.2.2))) := by
  refine cal_of T.d_deal_faults fun f fd F => fn_ok F sc_deal_faults (fun _ => rfl) fun cdv A outer s H E a hr pre => ?_
  obtain ⟨S, ⟨log, heard, logs, bank, letters⟩, dl⟩ := a
  obtain ⟨wf, ls, hd⟩ := pre
  have wf' : SW S := wf
  have hd' : dl ∈ S.2.1.map (·.1) := hd
  have ls' : Ls S (log, heard, logs, bank, letters) := ls
  have z1 : log.length ≤ 1000 := ls'.l1
  have z2 : logs.length = (housesIn S).length := ls'.l2
  have z3 : ∀ g ∈ logs, g.length ≤ 1000 := ls'.l3
  have z4 : bank.length ≤ 1000 := ls'.l4
  have l1 : S.1.length ≤ 3 := wf'.l1
  have hh : (housesIn S).length ≤ 2 := wf'.hh
  have ol : (housesOf S dl).length ≤ 3 := by have := hof_len S dl S.1 []; rw [List.length_nil] at this; unfold housesOf; omega
  obtain ⟨rp, rm, ris⟩ := T.t_ROWS
  obtain ⟨hp_, hm_, his⟩ := T.t_HOUSE_ROWS
  obtain ⟨bp, bm, bis⟩ := T.t_BANK_ROWS
  rw [startE_lit 8 rfl]
  show DB _ _ [.d (enc S), .d (enc (log, heard, logs, bank, letters)), .d (enc dl), .no, .no, .no, .no, .no, .no, .no, .no] _ _ (fun d => d = encL (dealFaults S (log, heard, logs, bank, letters) dl))
  refine db_cons (ds_par (i := 3) (j := 4) (P := fun y => y = [.d (enc (rowOf log dl)), .own (.lst [])]) (das_cons (se_d (c_row_of T (hr.mono (by decide)) (x := log) (y := dl) (de_ixn 0 (ds := [enc log, enc heard, enc logs, enc bank, enc letters]) (de_var (i := 1) rfl) rfl) (de_var (i := 2) rfl) z1)) (das_cons (se_f df_nil) as_nil)) sc_deal_faults.nd (fun xs h => ⟨_, _, h, ?_⟩))
  show DB _ _ [.d (enc S), .d (enc (log, heard, logs, bank, letters)), .d (enc dl), .d (enc (rowOf log dl)), .own (.lst (([] : List Flt).map enc)), .no, .no, .no, .no, .no, .no] _ _ _
  refine db_cons (ds_setS (i := 6) (P := fun y => y = .own (.dct (wd ((rowsF S logs dl).map fun p => (p.1, (enc p.2 : D)))))) ?_ sc_deal_faults.nd (fun x e => ?_))
  · have cv : ∀ {X : Cx} {J : Jn} {env : List SL} {e : Expr}, DSE X J env e (.own (.dct (wd ((((housesIn S).zip logs).filter fun _ => true).map fun p => (p.1, (enc (rowOf p.2 dl) : D)))))) → SE' X J env e (fun y => y = .own (.dct (wd ((rowsF S logs dl).map fun p => (p.1, (enc p.2 : D)))))) := fun {X J env e} h => by
      have q : (((housesIn S).zip logs).filter fun _ => true).map (fun p => (p.1, (enc (rowOf p.2 dl) : D))) = (rowsF S logs dl).map fun p => (p.1, (enc p.2 : D)) := by
        rw [List.filter_eq_self.mpr (fun _ _ => rfl)]
        unfold rowsF
        rw [List.map_map]; rfl
      rw [← q]; exact h
    refine cv (se_dc (xs := (housesIn S).zip logs) (f := fun p => .tup [enc p.1, enc p.2]) (p := fun _ => true) (kw := fun p => p.1) (g := fun p => enc (rowOf p.2 dl)) (t := .tp [5, 10]) (own := [("house", 5), ("log", 10)]) (di_zipW T.f_zip (c_houses_in T (hr.mono (by decide)) (x := S) (de_var (i := 0) rfl) (by omega)) (de_ixn 2 (ds := [enc log, enc heard, enc logs, enc bank, enc letters]) (de_var (i := 1) rfl) rfl) (.lst _) (.tup _)) rfl sc_deal_faults.nd (blkOk_by (N := ["setup", "state", "deal", "shop", "found", "house", "rows", "bank", "own", "row", "log"]) (sc := defScope (top 73)) (by decide +kernel)) (by decide) (fun _ _ _ _ _ => (pg_tup rfl (pgs_cons (pg_name (i := 5) sc_deal_faults.nd rfl (Or.inl rfl)) (pgs_cons (pg_name (i := 10) sc_deal_faults.nd rfl (Or.inl rfl)) pgs_nil)))) (fun _ => .tp _ _ _ rfl)
      (fun _ _ _ _ _ x hx => dts_nil) (fun _ _ _ _ _ x hx _ => de_var (i := 5) rfl) (fun _ _ _ _ _ x hx _ => by
        refine c_row_of T ?_ (x := x.2) (y := dl) ?_ ?_ (z3 _ (List.of_mem_zip hx).2)
        · exact hr.mono (by decide)
        · exact de_var (i := 10) rfl
        · exact de_var (i := 2) rfl) (small (m := 1000) (by rw [List.length_zip]; omega)) (by rw [List.filter_eq_self.mpr (fun _ _ => rfl)]; show (((housesIn S).zip logs).map (·.1)).Nodup; rw [List.map_fst_zip (by omega)]; exact houses_nodup S))
  subst e
  show DB _ _ [.d (enc S), .d (enc (log, heard, logs, bank, letters)), .d (enc dl), .d (enc (rowOf log dl)), .own (.lst (([] : List Flt).map enc)), .no, .own (.dct (wd ((rowsF S logs dl).map fun p => (p.1, (enc p.2 : D))))), .no, .no, .no, .no] _ _ _
  refine db_cons (ds_par (i := 7) (j := 8) (P := fun y => y = [.d (enc (rowOf bank dl)), .d (encL (housesOf S dl))]) (das_cons (se_d (c_row_of T (hr.mono (by decide)) (x := bank) (y := dl) (de_ixn 3 (ds := [enc log, enc heard, enc logs, enc bank, enc letters]) (de_var (i := 1) rfl) rfl) (de_var (i := 2) rfl) z4)) (das_cons (se_d (c_houses_of T (hr.mono (by decide)) (x := S) (y := dl) (de_var (i := 0) rfl) (de_var (i := 2) rfl) wf' hd')) as_nil)) sc_deal_faults.nd (fun xs h => ⟨_, _, h, ?_⟩))
  have rl : (rowsF S logs dl).length ≤ 2 := by unfold rowsF; rw [List.length_map, List.length_zip]; omega
  have rk : ∀ h ∈ housesOf S dl, lookW ((rowsF S logs dl).map fun p => (p.1, (enc p.2 : D))) h = some (enc (rowAt (rowsF S logs dl) h)) := fun h m => rowsF_look z2 (housesOf_sub m).1
  have eQ : dealFaults S (log, heard, logs, bank, letters) dl = dealPre (rowOf log dl) (rowOf bank dl) (housesOf S dl) (rowsF S logs dl) dl ++ endFaults (rowOf log dl) ((housesOf S dl).map (rowAt (rowsF S logs dl))) (rowOf bank dl) dl := rfl
  rw [eQ]
  generalize rowOf log dl = shop
  generalize rowOf bank dl = bk
  generalize housesOf S dl = own at ol rk ⊢
  generalize rowsF S logs dl = rows at rl rk ⊢
  show DB _ _ [.d (enc S), .d (enc (log, heard, logs, bank, letters)), .d (enc dl), .d (enc shop), .own (.lst (([] : List Flt).map enc)), .no, .own (.dct (wd (rows.map fun p => (p.1, (enc p.2 : D))))), .d (enc bk), .d (encL own), .no, .no] _ _ _
  refine db_cons (ds_ifApp (i := 4) (b := shopB shop) (acc := ([] : List Flt)) (x := (W.order, W.shop, dl)) rfl ?_ (de_tup (da_cons (de_W .order) (da_cons (de_W .shop) (da_cons (de_var (i := 2) rfl) da_nil)))) (by decide) ?_)
  · exact (dt_w (dw_and (dt_ne hr (x := shop) (y := []) (de_var (i := 3) rfl) (de_tup da_nil)) fun _ => (dw_and1 (dt_nin hr (x := shop) (ys := rows0) (de_var (i := 3) rfl) (de_gref rm ris) (.tup _)))))
  have a0 := iff1_len (shopB shop) ((W.order, W.shop, dl) : Flt)
  unfold dealPre
  generalize hA : ([] ++ iff1 (shopB shop) ((W.order, W.shop, dl) : Flt)) = acc0
  have a1 : acc0.length ≤ 1 := by rw [← hA, List.nil_append]; exact a0
  show DB _ _ [.d (enc S), .d (enc (log, heard, logs, bank, letters)), .d (enc dl), .d (enc shop), .own (.lst ((acc0).map enc)), .no, .own (.dct (wd (rows.map fun p => (p.1, (enc p.2 : D))))), .d (enc bk), .d (encL own), .no, .no] _ _ _
  refine db_cons (ds_forItems (i := 6) (kvs := rows.map fun p => (p.1, (enc p.2 : D))) (t := .tp [5, 9]) rfl
    (fun j env => ∃ x5 x9, env = [.d (enc S), .d (enc (log, heard, logs, bank, letters)), .d (enc dl), .d (enc shop), .own (.lst (((rows.take j).foldl (houseF shop own dl) acc0).map enc)), x5, .d (.dct (wd (rows.map fun p => (p.1, (enc p.2 : D))))), .d (enc bk), .d (encL own), x9, .no]) ⟨_, _, rfl⟩ ?_ ?_ ?_ PassesOwn.never)
  · rintro j x _ hj ⟨x5, x9, rfl⟩
    rw [List.getElem?_map, Option.map_eq_some_iff] at hj
    obtain ⟨q, hq, rfl⟩ := hj
    refine ⟨_, .tp _ _ _ rfl, ?_⟩
    have b1 := houseF_len shop own dl (rows.take j) acc0
    rw [List.length_take] at b1
    rw [take_succ_of hq, List.foldl_append]
    show DB _ _ [.d (enc S), .d (enc (log, heard, logs, bank, letters)), .d (enc dl), .d (enc shop), .own (.lst (((rows.take j).foldl (houseF shop own dl) acc0).map enc)), .d (enc q.1), .d (.dct (wd (rows.map fun p => (p.1, (enc p.2 : D))))), .d (enc bk), .d (encL own), .d (enc q.2), .no] _ _ _
    generalize (rows.take j).foldl (houseF shop own dl) acc0 = acc at b1 ⊢
    have y1 := iff1_len (houseB1 own q) ((W.order, q.1, dl) : Flt)
    refine db_cons (ds_ifApp (i := 4) (b := houseB1 own q) (acc := acc) (x := (W.order, q.1, dl)) rfl ?_ (de_tup (da_cons (de_W .order) (da_cons (de_var (i := 5) rfl) (da_cons (de_var (i := 2) rfl) da_nil)))) (by omega) ?_)
    · exact (dt_w (dw_or (dt_nin hr (x := q.2) (ys := hrows) (de_var (i := 9) rfl) (de_gref hm_ his) (.tup _)) fun _ => (dw_or1 (dt_w (dw_and (dt_ne hr (x := q.2) (y := []) (de_var (i := 9) rfl) (de_tup da_nil)) fun _ => (dw_and1 (dt_nin hr (x := q.1) (ys := own) (de_var (i := 5) rfl) (de_var (i := 8) rfl) (.lst _))))))))
    show DB _ _ [.d (enc S), .d (enc (log, heard, logs, bank, letters)), .d (enc dl), .d (enc shop), .own (.lst ((acc ++ iff1 (houseB1 own q) ((W.order, q.1, dl) : Flt)).map enc)), .d (enc q.1), .d (.dct (wd (rows.map fun p => (p.1, (enc p.2 : D))))), .d (enc bk), .d (encL own), .d (enc q.2), .no] _ _ _
    refine db_cons (ds_ifApp (i := 4) (b := houseB2 shop q.2) (acc := acc ++ iff1 (houseB1 own q) ((W.order, q.1, dl) : Flt)) (x := (W.choice, q.1, dl)) rfl ?_ (de_tup (da_cons (de_W .choice) (da_cons (de_var (i := 5) rfl) (da_cons (de_var (i := 2) rfl) da_nil)))) (by rw [List.length_append]; omega) ?_)
    · exact (dt_w (dw_or (dt_w (dw_and (dt_in hr (x := W.sent) (ys := q.2) (de_gW T.c_SENT) (de_var (i := 9) rfl) (.tup _)) fun _ => (dw_and1 (dt_nin hr (x := W.go) (ys := shop) (de_gW T.c_GO) (de_var (i := 3) rfl) (.tup _))))) fun _ => (dw_or (dt_w (dw_and (dt_in hr (x := W.released) (ys := q.2) (de_gW T.c_RELEASED) (de_var (i := 9) rfl) (.tup _)) fun _ => (dw_and1 (dt_nin hr (x := W.drop) (ys := shop) (de_gW T.c_DROP) (de_var (i := 3) rfl) (.tup _))))) fun _ => (dw_or1 (dt_w (dw_and (dt_in hr (x := W.back) (ys := q.2) (de_gW T.c_BACK) (de_var (i := 9) rfl) (.tup _)) fun _ => (dw_and1 (dt_nin hr (x := W.ret) (ys := shop) (de_gW T.c_RETURN) (de_var (i := 3) rfl) (.tup _)))))))))
    exact db_nil ⟨.d (enc q.1), .d (enc q.2), rfl⟩
  · rintro _ ⟨x5, x9, rfl⟩
    have b1 := houseF_len shop own dl rows acc0
    rw [List.length_map, List.take_length]
    generalize rows.foldl (houseF shop own dl) acc0 = acc1 at b1 ⊢
    have y1 := iff1_len (!decide (bk ∈ brows)) ((W.order, W.bank, dl) : Flt)
    have y2 := iff1_len (bankB2 shop bk) ((W.choice, W.bank, dl) : Flt)
    have y3 := iff1_len (bankB3 shop bk) ((W.choice, W.bank, dl) : Flt)
    have y4 := iff1_len (earlyB shop bk own rows) ((W.early, W.shop, dl) : Flt)
    refine db_cons (ds_ifApp (i := 4) (b := !decide (bk ∈ brows)) (acc := acc1) (x := (W.order, W.bank, dl)) rfl (dt_nin hr (x := bk) (ys := brows) (de_var (i := 7) rfl) (de_gref bm bis) (.tup _)) (de_tup (da_cons (de_W .order) (da_cons (de_gW T.c_BANK) (da_cons (de_var (i := 2) rfl) da_nil)))) (by omega) ?_)
    generalize h2 : acc1 ++ iff1 (!decide (bk ∈ brows)) ((W.order, W.bank, dl) : Flt) = acc2
    have b2 : acc2.length ≤ 6 := by rw [← h2, List.length_append]; omega
    show DB _ _ [.d (enc S), .d (enc (log, heard, logs, bank, letters)), .d (enc dl), .d (enc shop), .own (.lst ((acc2).map enc)), x5, .d (.dct (wd (rows.map fun p => (p.1, (enc p.2 : D))))), .d (enc bk), .d (encL own), x9, .no] _ _ _
    refine db_cons (ds_ifApp (i := 4) (b := bankB2 shop bk) (acc := acc2) (x := (W.choice, W.bank, dl)) rfl ?_ (de_tup (da_cons (de_W .choice) (da_cons (de_gW T.c_BANK) (da_cons (de_var (i := 2) rfl) da_nil)))) (by omega) ?_)
    · exact (dt_w (dw_or (dt_w (dw_and (dt_in hr (x := W.taken) (ys := bk) (de_gW T.c_TAKEN) (de_var (i := 7) rfl) (.tup _)) fun _ => (dw_and1 (dt_nin hr (x := W.go) (ys := shop) (de_gW T.c_GO) (de_var (i := 3) rfl) (.tup _))))) fun _ => (dw_or1 (dt_w (dw_and (dt_in hr (x := W.freed) (ys := bk) (de_gW T.c_FREED) (de_var (i := 7) rfl) (.tup _)) fun _ => (dw_and1 (dt_nin hr (x := W.drop) (ys := shop) (de_gW T.c_DROP) (de_var (i := 3) rfl) (.tup _))))))))
    generalize h3 : acc2 ++ iff1 (bankB2 shop bk) ((W.choice, W.bank, dl) : Flt) = acc3
    have b3 : acc3.length ≤ 7 := by rw [← h3, List.length_append]; omega
    show DB _ _ [.d (enc S), .d (enc (log, heard, logs, bank, letters)), .d (enc dl), .d (enc shop), .own (.lst ((acc3).map enc)), x5, .d (.dct (wd (rows.map fun p => (p.1, (enc p.2 : D))))), .d (enc bk), .d (encL own), x9, .no] _ _ _
    refine db_cons (ds_ifApp (i := 4) (b := bankB3 shop bk) (acc := acc3) (x := (W.choice, W.bank, dl)) rfl ?_ (de_tup (da_cons (de_W .choice) (da_cons (de_gW T.c_BANK) (da_cons (de_var (i := 2) rfl) da_nil)))) (by omega) ?_)
    · exact (dt_w (dw_and (dt_in hr (x := W.refunded) (ys := bk) (de_gW T.c_REFUNDED) (de_var (i := 7) rfl) (.tup _)) fun _ => (dw_and1 (dt_nin hr (x := W.ret) (ys := shop) (de_gW T.c_RETURN) (de_var (i := 3) rfl) (.tup _)))))
    generalize h4 : acc3 ++ iff1 (bankB3 shop bk) ((W.choice, W.bank, dl) : Flt) = acc4
    have b4 : acc4.length ≤ 8 := by rw [← h4, List.length_append]; omega
    show DB _ _ [.d (enc S), .d (enc (log, heard, logs, bank, letters)), .d (enc dl), .d (enc shop), .own (.lst ((acc4).map enc)), x5, .d (.dct (wd (rows.map fun p => (p.1, (enc p.2 : D))))), .d (enc bk), .d (encL own), x9, .no] _ _ _
    refine db_cons (ds_ifApp (i := 4) (b := earlyB shop bk own rows) (acc := acc4) (x := (W.early, W.shop, dl)) rfl ?_ (de_tup (da_cons (de_W .early) (da_cons (de_W .shop) (da_cons (de_var (i := 2) rfl) da_nil)))) (by omega) ?_)
    · exact (dt_w (dw_and (dt_in hr (x := W.go) (ys := shop) (de_gW T.c_GO) (de_var (i := 3) rfl) (.tup _)) fun _ => (dw_and1 (dt_w (dw_or (dt_nin hr (x := W.held) (ys := bk) (de_gW T.c_HELD) (de_var (i := 7) rfl) (.tup _)) fun _ => (dw_or1 (dt_not (dt_val (de_allF (xs := own) (g := fun h => decide (W.reserved ∈ rowAt rows h)) T.f_all (df_lc0 (xs := own) (f := enc) (t := .nm 5) (own := [("house", 5)]) (di_lst (de_var (i := 8) rfl)) rfl sc_deal_faults.nd (blkOk_by (N := ["setup", "state", "deal", "shop", "found", "house", "rows", "bank", "own", "row", "log"]) (sc := defScope (top 73)) (by decide +kernel)) (by decide) (fun _ _ _ _ _ => (pg_name (i := 5) sc_deal_faults.nd rfl (Or.inl rfl))) (fun _ => .nm _ _ _) (fun _ _ _ _ _ x hx => (de_in hr (x := W.reserved) (ys := rowAt rows x) (de_gW T.c_RESERVED) (de_dget hr (kvs := rows.map fun p => (p.1, (enc p.2 : D))) (w := x) (de_var (i := 6) rfl) (de_var (i := 5) rfl) (rk x hx)) (.tup _))) (small (m := 3) ol)))))))))))
    generalize h5 : acc4 ++ iff1 (earlyB shop bk own rows) ((W.early, W.shop, dl) : Flt) = acc5
    have b5 : acc5.length ≤ 9 := by rw [← h5, List.length_append]; omega
    show DB _ _ [.d (enc S), .d (enc (log, heard, logs, bank, letters)), .d (enc dl), .d (enc shop), .own (.lst ((acc5).map enc)), x5, .d (.dct (wd (rows.map fun p => (p.1, (enc p.2 : D))))), .d (enc bk), .d (encL own), x9, .no] _ _ _
    have e1 := iff1_len (endB shop .ended .go .taken .sent bk (own.map (rowAt rows))) ((W.fin, W.shop, dl) : Flt)
    have e2 := iff1_len (endB shop .ended .drop .freed .released bk (own.map (rowAt rows))) ((W.fin, W.shop, dl) : Flt)
    have e3 := iff1_len (endB3 shop bk (own.map (rowAt rows))) ((W.back, W.shop, dl) : Flt)
    have el : (endFaults shop (own.map (rowAt rows)) bk dl).length ≤ 3 := by unfold endFaults; rw [List.length_append, List.length_append, List.nil_append]; omega
    refine db_cons (ds_retD (de_catL (xs := acc5.map enc) (ys := (endFaults shop (own.map (rowAt rows)) bk dl).map enc) (de_var (i := 4) rfl) (c_end_faults T (hr.mono (by decide)) (x := shop) (y := own.map (rowAt rows)) (z := bk) (u := dl) (de_var (i := 3) rfl) (DE.cast (d := .lst (own.map fun h => enc (rowAt rows h))) (de_fe (df_lc0 (xs := own) (f := enc) (g := fun h => enc (rowAt rows h)) (t := .nm 5) (own := [("house", 5)]) (di_lst (de_var (i := 8) rfl)) rfl sc_deal_faults.nd (blkOk_by (N := ["setup", "state", "deal", "shop", "found", "house", "rows", "bank", "own", "row", "log"]) (sc := defScope (top 73)) (by decide +kernel)) (by decide) (fun _ _ _ _ _ => (pg_name (i := 5) sc_deal_faults.nd rfl (Or.inl rfl))) (fun _ => .nm _ _ _) (fun _ _ _ _ _ x hx => (de_dget hr (kvs := rows.map fun p => (p.1, (enc p.2 : D))) (w := x) (de_var (i := 6) rfl) (de_var (i := 5) rfl) (rk x hx))) (small (m := 3) ol))) (by show D.lst _ = D.lst _; rw [List.map_map]; rfl)) (de_var (i := 7) rfl) (de_var (i := 2) rfl) (by rw [List.length_map]; omega)) (Nat.le_of_lt (small (m := 100) (by rw [List.length_map, List.length_map]; omega)))) ?_)
    rw [← List.map_append]
  · exact (pg_tup rfl (pgs_cons (pg_name (i := 5) sc_deal_faults.nd rfl (Or.inl rfl)) (pgs_cons (pg_name (i := 9) sc_deal_faults.nd rfl (Or.inl rfl)) pgs_nil)))
end
section
variable {X : Cx} {J : Jn} {env : List SL} {a b c d e f : Expr} {pos p : Pos}
theorem c_deal_faults (T : Txt X.K X.mg) (hr : Room 4 X.A) {x : Setup} {y : State} {z : W} (ha : DE X J env a (enc x)) (hb : DE X J env b (enc y)) (hc : DE X J env c (enc z)) (h1 : SW x) (h2 : Ls x y) (h3 : z ∈ x.2.1.map (·.1)) (hg : Gl X "deal_faults" := by rfl) (s0 : starEach [a, b, c] X.env = (false, eval a X.env) :: starEach [b, c] X.env := by rfl) (s1 : starEach [b, c] X.env = (false, eval b X.env) :: starEach [c] X.env := by rfl) (s2 : starEach [c] X.env = (false, eval c X.env) :: starEach [] X.env := by rfl) (hpl : (backTo pos (starEach [b, c] X.env)).any (·.1) = false := by rfl) :
    DE X J env (.Call (.Name "deal_faults" p) [a, b, c] [] pos) (encL (dealFaults x y z)) := cal_de (cal_deal_faults T) hr (x, y, z) (da_cons ha (da_cons hb (da_cons hc da_nil s2) s1) s0) ⟨h1, h2, h3⟩ hg s0 hpl
end
end Sh
/-! Sh20: min and sum of whole numbers in a tuple, min of a list. -/
namespace Sh
open PySem PySem.Spec PyProof.Rows L2
open En (enc)
open PySem.W (AlikeAll minD minD_ints min_list_data min_tuple_data)
theorem reads_ints {h : Heap} : ∀ {ns : List Int} {us : List Value}, Vals (ns.map V.int) us → ReadsAll h us (ns.map .int) []
  | [], _, .nil => .nil
  | n :: ns, _, .cons r t => by
    obtain ⟨tk, rfl⟩ := r
    exact .cons (as := []) (.int n tk) (reads_ints t)
theorem alike_ints (ns : List Int) : AlikeAll (ns.map .int) := by
  refine ⟨fun x hx y hy => ?_, fun x hx e => ?_⟩
  · obtain ⟨a, _, rfl⟩ := List.mem_map.mp hx
    obtain ⟨b, _, rfl⟩ := List.mem_map.mp hy
    rfl
  · obtain ⟨a, _, rfl⟩ := List.mem_map.mp hx
    cases e
theorem depth_ints : ∀ ns : List Int, PyData.depthAll (ns.map .int) ≤ 1
  | [] => by decide
  | n :: ns => by
    have z := depth_ints ns
    simp only [List.map_cons, PyData.depthAll, PyData.depth] at z ⊢
    omega
/-- min of a tuple or list of whole numbers, not empty -/
def rMinB (b : Bool) (K : PySem.W.Frag) : List V → Hp → VK → Prop := fun vs H Q => ∃ (a : Addr) (n : Int) (ns : List Int), vs = [V.ref a] ∧ SqB b K H a ((n :: ns).map V.int) ∧ Q (.int (ns.foldl min n)) H
theorem cr_minB (b : Bool) {X : Cx} (hc : X.calm = true) (hu : X.A.units + 65 < cLine) : CallR X (.builtin "min") (rMinB b X.K) := by
  intro pins s σ H vs us Q I r h
  obtain ⟨a, n, ns, rfl, hs, q⟩ := h
  obtain ⟨its, rv, hl, _⟩ := inv_b b I hs
  rw [Vals.ref1 r]
  have rd : ReadsAll s.heap its.toArray.toList (PyData.int n :: ns.map .int) [] := by simpa using reads_ints (h := s.heap) rv
  have dp := depth_ints (n :: ns)
  have fin : ∀ (i : Nat) v h' tk bs, its.toArray[i]? = some v → Reads h' v (minD (.int n) (ns.map .int)) bs → (∀ b o, s.heap.get? b = some o → h'.get? b = some o) → ∃ x H', Inv X pins σ H' { s with heap := h', toks := tk } ∧ RelV x v ∧ Q x H' := fun i v h' tk bs _ rr k => by
    rw [minD_ints] at rr
    cases rr
    exact ⟨.int _, H, I.kept k, ⟨_, rfl⟩, q⟩
  cases b
  · exact min_list_data (I.ok.hd hc) hl rd (alike_ints (n :: ns)) (by have z : PyData.depthAll (PyData.int n :: ns.map .int) ≤ 1 := dp; omega) fin
  · exact min_tuple_data (I.ok.hd hc) hl rd (alike_ints (n :: ns)) (by have z : PyData.depthAll (PyData.int n :: ns.map .int) ≤ 1 := dp; omega) fin
def rSumT (K : PySem.W.Frag) : List V → Hp → VK → Prop := fun vs H Q => ∃ (a : Addr) (ns : List Int), vs = [V.ref a] ∧ SqT K H a (ns.map V.int) ∧ Q (.int ns.sum) H
theorem cr_sumT {X : Cx} (hc : X.calm = true) : CallR X (.builtin "sum") (rSumT X.K) := by
  intro pins s σ H vs us Q I r h
  obtain ⟨a, ns, rfl, hs, q⟩ := h
  obtain ⟨its, rv, hl, _⟩ := I.tuple hs
  rw [Vals.ref1 r]
  have hi : IntsAre its ns := rv.ints
  obtain ⟨xs, e⟩ := hi.allInts.items
  have hn : numsOf (intItems xs).toList = ns := by rw [← e]; exact hi.numsOf
  rw [nums_intItems] at hn
  have hl2 : s.heap.IsTuple a its.toArray := hl
  rw [e] at hl2
  refine PySem.W.ktm_sumG (I.ok.hd hc) hl2 fun h' tk t' hk => ?_
  rw [preSum_eq, List.take_of_length_le (by simp), hn]
  exact ⟨.int _, H, I.kept hk, ⟨_, rfl⟩, q⟩
section
variable {X : Cx} {J : Jn} {env : List SL} {a : Expr} {pos p : Pos} {k : Nat} {d : D}
theorem de_min {n : Int} {ns : List Int} (hr : Room k X.A) (hm : X.mg "min" = none) (ha : DE X J env a d) (hq : Sq d ((n :: ns).map D.int)) (hc : X.calm = true := by rfl) (hg : Gl X "min" := by rfl) (he : starEach [a] X.env = (false, eval a X.env) :: starEach [] X.env := by rfl) (hpl : (backTo pos (starEach [] X.env)).any (·.1) = false := by rfl) : DE X J env (.Call (.Name "min" p) [a] [] pos) (.int (ns.foldl min n)) := by
  refine ep_callB (cr_minB (tagB d) hc (hu65 hr)) hm (by decide +kernel) (da_cons ha da_nil (by exact he)) (fun vs ds' G H Q b al pa q => ?_) hg (by decide) (by decide) he hpl
  subst pa
  obtain ⟨v, rfl, r⟩ := isAll1 al
  obtain ⟨l, xs, rfl, hs, al2⟩ := hq.isB r
  have e := isAll_int al2
  subst e
  exact ⟨l, n, ns, rfl, sqB_same b.gh hs, q _ _ G H (Up.refl b) (.int _) rfl⟩
theorem de_sumT {ns : List Int} (hm : X.mg "sum" = none) (ha : DE X J env a (.tup (ns.map D.int))) (hc : X.calm = true := by rfl) (hg : Gl X "sum" := by rfl) (he : starEach [a] X.env = (false, eval a X.env) :: starEach [] X.env := by rfl) (hpl : (backTo pos (starEach [] X.env)).any (·.1) = false := by rfl) : DE X J env (.Call (.Name "sum" p) [a] [] pos) (.int ns.sum) := by
  refine ep_callB (cr_sumT hc) hm (by decide +kernel) (da_cons ha da_nil (by exact he)) (fun vs ds' G H Q b al pa q => ?_) hg (by decide) (by decide) he hpl
  subst pa
  obtain ⟨v, rfl, r⟩ := isAll1 al
  obtain ⟨l, xs, rfl, hs, al2⟩ := r.tup_inv
  have e := isAll_int al2
  subst e
  exact ⟨l, ns, rfl, sqT_same b.gh hs, q _ _ G H (Up.refl b) (.int _) rfl⟩
end
end Sh
/-! A15: faults_in, audit's word. -/
namespace Sh
open PySem PySem.Spec PyProof.Rows L2
open En (enc)
def minI : List Int → Int
  | [] => 0
  | n :: ns => ns.foldl min n
def badRow (row : List Int) (n : Int) : Bool := decide (minI row < 0) || !decide (row.sum = n)
def faultsT (S : Setup) (logs : List Log) (xs : List Sup) : List Flt := xs.foldl (fun acc s => acc ++ iff1 (badRow (thingRow S logs s) s.2.2) (.things, s.2.1, s.1)) []
def faultsC (S : Setup) (bank : Log) (xs : List Buy) (acc : List Flt) : List Flt := xs.foldl (fun acc b => acc ++ iff1 (badRow (coinRow S bank b) b.2) (.coins, .bank, b.1)) acc
def faultsD (S : Setup) (st : State) (xs : List Deal) (acc : List Flt) : List Flt := xs.foldl (fun acc d => acc ++ dealFaults S st d.1) acc
def faultsIn (S : Setup) (st : State) : List Flt := faultsD S st S.2.1 (faultsC S st.2.2.2.1 S.2.2 (faultsT S st.2.2.1 S.1))
theorem fold_len {α β : Type} (f : α → List β) (k : Nat) (h : ∀ a, (f a).length ≤ k) : ∀ (xs : List α) (acc : List β), (xs.foldl (fun acc a => acc ++ f a) acc).length ≤ acc.length + k * xs.length
  | [], acc => Nat.le_refl _
  | x :: r, acc => by
    have z := fold_len f k h r (acc ++ f x)
    have y := h x
    rw [List.length_append] at z
    show (r.foldl _ (acc ++ f x)).length ≤ _
    rw [List.length_cons, Nat.mul_succ]
    omega
theorem fold_nil {α β : Type} (f : α → List β) : ∀ (xs : List α) (acc : List β), xs.foldl (fun acc a => acc ++ f a) acc = [] ↔ acc = [] ∧ ∀ x ∈ xs, f x = []
  | [], acc => ⟨fun h => ⟨h, fun _ z => by cases z⟩, fun h => h.1⟩
  | x :: r, acc => by
    rw [List.foldl_cons, fold_nil f r (acc ++ f x), List.append_eq_nil_iff]
    constructor
    · rintro ⟨⟨h1, h2⟩, h3⟩
      refine ⟨h1, fun y hy => ?_⟩
      rcases List.mem_cons.mp hy with z | z
      · rw [z]; exact h2
      · exact h3 y z
    · rintro ⟨h1, h2⟩
      exact ⟨⟨h1, h2 x (.head _)⟩, fun y hy => h2 y (.tail _ hy)⟩
theorem endFaults_len (shop : List W) (rows : List (List W)) (bank : List W) (d : W) : (endFaults shop rows bank d).length ≤ 3 := by
  have e1 := iff1_len (endB shop .ended .go .taken .sent bank rows) ((W.fin, W.shop, d) : Flt)
  have e2 := iff1_len (endB shop .ended .drop .freed .released bank rows) ((W.fin, W.shop, d) : Flt)
  have e3 := iff1_len (endB3 shop bank rows) ((W.back, W.shop, d) : Flt)
  unfold endFaults
  rw [List.length_append, List.length_append, List.nil_append]
  omega
theorem dealFaults_len {S : Setup} {st : State} (hl : (housesIn S).length ≤ 2) (d : W) : (dealFaults S st d).length ≤ 12 := by
  have z := endFaults_len (rowOf st.1 d) ((housesOf S d).map (rowAt (rowsF S st.2.2.1 d))) (rowOf st.2.2.2.1 d) d
  have rl : (rowsF S st.2.2.1 d).length ≤ 2 := by unfold rowsF; rw [List.length_map, List.length_zip]; omega
  unfold dealFaults
  rw [List.length_append]
  generalize rowsF S st.2.2.1 d = rows at z rl ⊢
  generalize rowOf st.1 d = shop at z ⊢
  generalize rowOf st.2.2.2.1 d = bk at z ⊢
  generalize housesOf S d = own at z ⊢
  have a0 := iff1_len (shopB shop) ((W.order, W.shop, d) : Flt)
  have b1 := houseF_len shop own d rows ([] ++ iff1 (shopB shop) ((W.order, W.shop, d) : Flt))
  rw [List.nil_append] at b1
  have y1 := iff1_len (!decide (bk ∈ brows)) ((W.order, W.bank, d) : Flt)
  have y2 := iff1_len (bankB2 shop bk) ((W.choice, W.bank, d) : Flt)
  have y3 := iff1_len (bankB3 shop bk) ((W.choice, W.bank, d) : Flt)
  have y4 := iff1_len (earlyB shop bk own rows) ((W.early, W.shop, d) : Flt)
  unfold dealPre
  rw [List.length_append, List.length_append, List.length_append, List.length_append, List.nil_append]
  omega
theorem zip_same {α : Type} (xs : List α) (f g : α → D) : ((xs.map f).zip (xs.map g)).map (fun d => D.tup [d.1, d.2]) = xs.map fun x => D.tup [f x, g x] := by
  induction xs with
  | nil => rfl
  | cons x r ih => rw [List.map_cons, List.map_cons, List.zip_cons_cons, List.map_cons, ih]; rfl
theorem cut1 (x : D) (l : List D) : cutD (x :: l) (some 1) none = l := cut_drop (x :: l) 1
section
variable {P : Program} {w : World} {K : PySem.W.Frag} {mg : Str → Option Value} {base : Heap}
theorem sc_faults_in : FnScope ["setup", "state", "found", "supply", "told", "buyer", "deal"] ["setup", "state"] (defScope (top 75)) := ⟨rfl, rfl, rfl, by decide +kernel, rfl, by decide +kernel, by decide +kernel⟩
theorem cal_faults_in (T : Txt K mg) : Cal P w K mg base "faults_in" 5 ["setup", "state"] (spT K J0 (fun a : Setup × State => [enc a.1, enc a.2]) (fun a => SW a.1 ∧ Ls a.1 a.2) (fun a d => d = encL (faultsIn a.1 a.2))) := by
  refine cal_of T.d_faults_in fun f fd F => fn_ok F sc_faults_in (fun _ => rfl) fun cdv A outer s H E a hr pre => ?_
  obtain ⟨S, ⟨log, heard, logs, bank, letters⟩⟩ := a
  obtain ⟨wf, ls⟩ := pre
  have wf' : SW S := wf
  have ls' : Ls S (log, heard, logs, bank, letters) := ls
  have z2 : logs.length = (housesIn S).length := ls'.l2
  have l1 : S.1.length ≤ 3 := wf'.l1
  have l2 : S.2.1.length ≤ 3 := wf'.l2
  have l3 : S.2.2.length ≤ 2 := wf'.l3
  have hh : (housesIn S).length ≤ 2 := wf'.hh
  rw [startE_lit 5 rfl]
  show DB _ _ [.d (enc S), .d (enc (log, heard, logs, bank, letters)), .no, .no, .no, .no, .no] _ _ (fun d => d = encL (faultsIn S (log, heard, logs, bank, letters)))
  refine db_cons (ds_setOD (i := 2) df_nil sc_faults_in.nd ?_)
  show DB _ _ [.d (enc S), .d (enc (log, heard, logs, bank, letters)), .own (.lst (([] : List Flt).map enc)), .no, .no, .no, .no] _ _ _
  refine db_cons (ds_for (xs := S.1) (f := fun s => .tup [enc s, .tup (enc s.1 :: (thingRow S logs s).map D.int)]) (t := .tp [3, 4]) ?_ (fun i env => ∃ x3 x4, env = [.d (enc S), .d (enc (log, heard, logs, bank, letters)), .own (.lst ((faultsT S logs (S.1.take i)).map enc)), x3, x4, .no, .no]) ⟨_, _, rfl⟩ ?_ ?_ ?_ PassesOwn.never)
  · rw [← zip_same S.1 enc fun s => .tup (enc s.1 :: (thingRow S logs s).map D.int)]
    exact di_zip T.f_zip (de_ixn 0 (de_var (i := 0) rfl) rfl) (c_things_in T (hr.mono (by decide)) (x := S) (y := (log, heard, logs, bank, letters)) (de_var (i := 0) rfl) (de_var (i := 1) rfl) wf' z2) (.tup _) (.tup _)
  · rintro i p _ hp ⟨x3, x4, rfl⟩
    refine ⟨_, .tp _ _ _ rfl, ?_⟩
    have e : faultsT S logs (S.1.take (i + 1)) = faultsT S logs (S.1.take i) ++ iff1 (badRow (thingRow S logs p) p.2.2) (.things, p.2.1, p.1) := by
      unfold faultsT; rw [take_succ_of hp, List.foldl_append]; rfl
    have n1 : (faultsT S logs (S.1.take i)).length ≤ 0 + 1 * (S.1.take i).length := fold_len (fun s : Sup => iff1 (badRow (thingRow S logs s) s.2.2) ((W.things, s.2.1, s.1) : Flt)) 1 (fun s => iff1_len _ _) _ _
    rw [List.length_take] at n1
    rw [e]
    generalize faultsT S logs (S.1.take i) = acc at n1 ⊢
    show DB _ _ [.d (enc S), .d (enc (log, heard, logs, bank, letters)), .own (.lst (acc.map enc)), .d (enc p), .d (.tup (enc p.1 :: (thingRow S logs p).map D.int)), .no, .no] _ _ _
    refine db_cons (ds_ifApp (i := 2) (b := badRow (thingRow S logs p) p.2.2) (acc := acc) (x := (W.things, p.2.1, p.1)) rfl ?_ (de_tup (da_cons (de_W .things) (da_cons (de_ixn 1 (ds := EnT.fs p) (de_var (i := 3) rfl) rfl) (da_cons (de_ixn 0 (ds := EnT.fs p) (de_var (i := 3) rfl) rfl) da_nil)))) (by omega) ?_)
    · exact (dt_w (dw_or (dt_lt (i := minI (thingRow S logs p)) (j := 0) (de_min hr T.f_min (DE.cast (de_slT (ds := enc p.1 :: (thingRow S logs p).map D.int) (de_var (i := 4) rfl) (po1 (i := 1) de_int) po0) (by rw [cut1]; rfl)) (.tup _)) de_int) fun _ => (dw_or1 (dt_ne hr (x := (thingRow S logs p).sum) (y := p.2.2) (de_sumT T.f_sum (DE.cast (de_slT (ds := enc p.1 :: (thingRow S logs p).map D.int) (de_var (i := 4) rfl) (po1 (i := 1) de_int) po0) (by rw [cut1]))) (de_ixn 2 (ds := EnT.fs p) (de_var (i := 3) rfl) rfl)))))
    · exact db_nil ⟨.d (enc p), .d (.tup (enc p.1 :: (thingRow S logs p).map D.int)), rfl⟩
  · rintro _ ⟨x3, x4, rfl⟩
    rw [List.take_length]
    have n1 : (faultsT S logs S.1).length ≤ 0 + 1 * S.1.length := fold_len (fun s : Sup => iff1 (badRow (thingRow S logs s) s.2.2) ((W.things, s.2.1, s.1) : Flt)) 1 (fun s => iff1_len _ _) _ _
    have eQ : faultsIn S (log, heard, logs, bank, letters) = faultsD S (log, heard, logs, bank, letters) S.2.1 (faultsC S bank S.2.2 (faultsT S logs S.1)) := rfl
    rw [eQ]
    generalize faultsT S logs S.1 = acc0 at n1 ⊢
    refine db_cons (ds_for (xs := S.2.2) (f := fun s => .tup [enc s, .tup (enc s.1 :: (coinRow S bank s).map D.int)]) (t := .tp [5, 4]) ?_ (fun i env => ∃ x5 x4, env = [.d (enc S), .d (enc (log, heard, logs, bank, letters)), .own (.lst ((faultsC S bank (S.2.2.take i) acc0).map enc)), x3, x4, x5, .no]) ⟨_, _, rfl⟩ ?_ ?_ ?_ PassesOwn.never)
    · rw [← zip_same S.2.2 enc fun s => .tup (enc s.1 :: (coinRow S bank s).map D.int)]
      exact di_zip T.f_zip (de_ixn 2 (de_var (i := 0) rfl) rfl) (c_coins_in T (hr.mono (by decide)) (x := S) (y := (log, heard, logs, bank, letters)) (de_var (i := 0) rfl) (de_var (i := 1) rfl) wf') (.tup _) (.tup _)
    · rintro i p _ hp ⟨x5, x4, rfl⟩
      refine ⟨_, .tp _ _ _ rfl, ?_⟩
      have e : faultsC S bank (S.2.2.take (i + 1)) acc0 = faultsC S bank (S.2.2.take i) acc0 ++ iff1 (badRow (coinRow S bank p) p.2) (.coins, .bank, p.1) := by
        unfold faultsC; rw [take_succ_of hp, List.foldl_append]; rfl
      have n2 : (faultsC S bank (S.2.2.take i) acc0).length ≤ acc0.length + 1 * (S.2.2.take i).length := fold_len (fun s : Buy => iff1 (badRow (coinRow S bank s) s.2) ((W.coins, W.bank, s.1) : Flt)) 1 (fun s => iff1_len _ _) _ _
      rw [List.length_take] at n2
      rw [e]
      generalize faultsC S bank (S.2.2.take i) acc0 = acc at n2 ⊢
      show DB _ _ [.d (enc S), .d (enc (log, heard, logs, bank, letters)), .own (.lst (acc.map enc)), x3, .d (.tup (enc p.1 :: (coinRow S bank p).map D.int)), .d (enc p), .no] _ _ _
      refine db_cons (ds_ifApp (i := 2) (b := badRow (coinRow S bank p) p.2) (acc := acc) (x := (W.coins, W.bank, p.1)) rfl ?_ (de_tup (da_cons (de_W .coins) (da_cons (de_gW T.c_BANK) (da_cons (de_ixn 0 (ds := EnT.fs p) (de_var (i := 5) rfl) rfl) da_nil)))) (by omega) ?_)
      · exact (dt_w (dw_or (dt_lt (i := minI (coinRow S bank p)) (j := 0) (de_min hr T.f_min (DE.cast (de_slT (ds := enc p.1 :: (coinRow S bank p).map D.int) (de_var (i := 4) rfl) (po1 (i := 1) de_int) po0) (by rw [cut1]; rfl)) (.tup _)) de_int) fun _ => (dw_or1 (dt_ne hr (x := (coinRow S bank p).sum) (y := p.2) (de_sumT T.f_sum (DE.cast (de_slT (ds := enc p.1 :: (coinRow S bank p).map D.int) (de_var (i := 4) rfl) (po1 (i := 1) de_int) po0) (by rw [cut1]))) (de_ixn 1 (ds := EnT.fs p) (de_var (i := 5) rfl) rfl)))))
      · exact db_nil ⟨.d (enc p), .d (.tup (enc p.1 :: (coinRow S bank p).map D.int)), rfl⟩
    · rintro _ ⟨x5, x4, rfl⟩
      rw [List.take_length]
      have n2 : (faultsC S bank S.2.2 acc0).length ≤ acc0.length + 1 * S.2.2.length := fold_len (fun s : Buy => iff1 (badRow (coinRow S bank s) s.2) ((W.coins, W.bank, s.1) : Flt)) 1 (fun s => iff1_len _ _) _ _
      generalize faultsC S bank S.2.2 acc0 = acc1 at n2 ⊢
      refine db_cons (ds_for (xs := S.2.1) (f := enc) (t := .nm 6) (di_tup (de_ixn 1 (de_var (i := 0) rfl) rfl)) (fun i env => ∃ x6, env = [.d (enc S), .d (enc (log, heard, logs, bank, letters)), .own (.lst ((faultsD S (log, heard, logs, bank, letters) (S.2.1.take i) acc1).map enc)), x3, x4, x5, x6]) ⟨_, rfl⟩ ?_ ?_ ?_ PassesOwn.never)
      · rintro i p _ hp ⟨x6, rfl⟩
        refine ⟨_, .nm _ _ _, ?_⟩
        have e : faultsD S (log, heard, logs, bank, letters) (S.2.1.take (i + 1)) acc1 = faultsD S (log, heard, logs, bank, letters) (S.2.1.take i) acc1 ++ dealFaults S (log, heard, logs, bank, letters) p.1 := by
          unfold faultsD; rw [take_succ_of hp, List.foldl_append]; rfl
        have n3 : (faultsD S (log, heard, logs, bank, letters) (S.2.1.take i) acc1).length ≤ acc1.length + 12 * (S.2.1.take i).length := fold_len (fun d : Deal => dealFaults S (log, heard, logs, bank, letters) d.1) 12 (fun d => dealFaults_len hh _) _ _
        rw [List.length_take] at n3
        have n4 := dealFaults_len (S := S) (st := (log, heard, logs, bank, letters)) hh p.1
        rw [e]
        generalize faultsD S (log, heard, logs, bank, letters) (S.2.1.take i) acc1 = acc at n3 ⊢
        show DB _ _ [.d (enc S), .d (enc (log, heard, logs, bank, letters)), .own (.lst (acc.map enc)), x3, x4, x5, .d (enc p)] _ _ _
        refine db_cons (ds_extend (i := 2) (P := fun es => es = (dealFaults S (log, heard, logs, bank, letters) p.1).map enc) rfl ((c_deal_faults T (hr.mono (by decide)) (x := S) (y := (log, heard, logs, bank, letters)) (z := p.1) (de_var (i := 0) rfl) (de_var (i := 1) rfl) (de_ixn 0 (ds := EnT.fs p) (de_var (i := 6) rfl) rfl) wf' ls' (List.mem_map.mpr ⟨p, List.mem_of_getElem? hp, rfl⟩)).imp fun d e => ⟨_, e, rfl⟩) (fun es q => ?_) (fun es q => ?_))
        · rw [q, List.length_map, List.length_map]; exact Nat.le_of_lt (small (m := 1000) (by omega))
        · rw [q, ← List.map_append]
          exact db_nil ⟨.d (enc p), rfl⟩
      · rintro _ ⟨x6, rfl⟩
        rw [List.take_length]
        exact db_cons (ds_retD (de_var (i := 2) rfl) rfl)
      · exact (pg_name (i := 6) sc_faults_in.nd rfl (Or.inl rfl))
    · exact (pg_tup rfl (pgs_cons (pg_name (i := 5) sc_faults_in.nd rfl (Or.inl rfl)) (pgs_cons (pg_name (i := 4) sc_faults_in.nd rfl (Or.inl rfl)) pgs_nil)))
  · exact (pg_tup rfl (pgs_cons (pg_name (i := 3) sc_faults_in.nd rfl (Or.inl rfl)) (pgs_cons (pg_name (i := 4) sc_faults_in.nd rfl (Or.inl rfl)) pgs_nil)))
end
section
variable {X : Cx} {J : Jn} {env : List SL} {a b c d e f : Expr} {pos p : Pos}
theorem c_faults_in (T : Txt X.K X.mg) (hr : Room 5 X.A) {x : Setup} {y : State} (ha : DE X J env a (enc x)) (hb : DE X J env b (enc y)) (h1 : SW x) (h2 : Ls x y) (hg : Gl X "faults_in" := by rfl) (s0 : starEach [a, b] X.env = (false, eval a X.env) :: starEach [b] X.env := by rfl) (s1 : starEach [b] X.env = (false, eval b X.env) :: starEach [] X.env := by rfl) (hpl : (backTo pos (starEach [b] X.env)).any (·.1) = false := by rfl) :
    DE X J env (.Call (.Name "faults_in" p) [a, b] [] pos) (encL (faultsIn x y)) := cal_de (cal_faults_in T) hr (x, y) (da_cons ha (da_cons hb da_nil s1) s0) ⟨h1, h2⟩ hg s0 hpl
end
end Sh
/-! A16: is_log, is_state, faults. -/
namespace Sh
open PySem PySem.Spec PyProof.Rows L2
open En (enc)
def isLog (log : Log) (ws ns : List W) : Bool := log.all fun p => decide (p.1 ∈ ws) && decide (p.2 ∈ ns)
section
variable {P : Program} {w : World} {K : PySem.W.Frag} {mg : Str → Option Value} {base : Heap}
theorem sc_is_log : FnScope ["thing", "words", "names", "one"] ["thing", "words", "names"] (defScope (top 76)) := ⟨rfl, rfl, rfl, by decide +kernel, rfl, by decide +kernel, by decide +kernel⟩
theorem cal_is_log (T : Txt K mg) : Cal P w K mg base "is_log" 1 ["thing", "words", "names"] (spT K J0 (fun a : Log × List W × List W => [enc a.1, enc a.2.1, encL a.2.2]) (fun a => a.1.length ≤ 1000) (fun a d => d = .bl (isLog a.1 a.2.1 a.2.2))) := by
  refine cal_of T.d_is_log fun f fd F => fn_ok F sc_is_log (fun _ => rfl) fun cdv A outer s H E a hr pre => ?_
  obtain ⟨log, ws, ns⟩ := a
  have hl : log.length ≤ 1000 := pre
  show DB _ _ [.d (enc log), .d (enc ws), .d (encL ns), .no] _ _ (fun d => d = .bl (isLog log ws ns))
  refine db_cons (ds_if (dt_w (dw_or (dt_not (dt_val (de_isi (T := "tuple") (n := "tuple") (r := true) T.f_isinstance (de_var (i := 0) rfl) (de_bty T.f_tuple (by decide +kernel)) rfl (by decide +kernel)))) fun _ => (dw_or1 (dt_not (dt_val (de_allF (xs := log) (g := fun _ => true) T.f_all (df_lc0 (xs := log) (f := enc) (t := .nm 3) (own := [("one", 3)]) (di_tup (de_var (i := 0) rfl)) rfl sc_is_log.nd (blkOk_by (N := ["thing", "words", "names", "one"]) (sc := defScope (top 76)) (by decide +kernel)) (by decide) (fun _ _ _ _ _ => (pg_name (i := 3) sc_is_log.nd rfl (Or.inl rfl))) (fun _ => .nm _ _ _)
    (fun _ _ _ _ _ x hx => (de_and (c1 := true) (c2 := true) (de_isi (T := "tuple") (n := "tuple") (r := true) T.f_isinstance (de_var (i := 3) rfl) (de_bty T.f_tuple (by decide +kernel)) rfl (by decide +kernel)) fun _ => (de_one (DE.cast (d := .bl (decide (((EnT.fs x).length : Int) = 2))) (de_eq hr (x := ((EnT.fs x).length : Int)) (y := (2 : Int)) (de_len (ds := EnT.fs x) T.f_len (de_var (i := 3) rfl) (.tup _)) de_int) rfl)))) (small (m := 1000) hl)))))))) (fun h => ?_) (fun h => ?_))
  · exfalso
    rw [all_true] at h
    cases h
  refine db_nil ?_
  exact db_cons (ds_retD (de_allF (xs := log) (g := fun p => decide (p.1 ∈ ws) && decide (p.2 ∈ ns)) T.f_all (df_lc0 (xs := log) (f := enc) (t := .nm 3) (own := [("one", 3)]) (di_tup (de_var (i := 0) rfl)) rfl sc_is_log.nd (blkOk_by (N := ["thing", "words", "names", "one"]) (sc := defScope (top 76)) (by decide +kernel)) (by decide) (fun _ _ _ _ _ => (pg_name (i := 3) sc_is_log.nd rfl (Or.inl rfl))) (fun _ => .nm _ _ _)
    (fun _ _ _ _ _ x hx => by
      refine de_and (c1 := true) (c2 := decide (x.1 ∈ ws) && decide (x.2 ∈ ns)) (de_isi (T := "str") (n := "str") (r := true) T.f_isinstance (de_ixn 0 (ds := EnT.fs x) (de_var (i := 3) rfl) rfl) (de_bty T.f_str (by decide +kernel)) rfl (by decide +kernel)) fun _ => ?_
      refine de_and (c1 := decide (x.1 ∈ ws)) (c2 := decide (x.2 ∈ ns)) ?_ fun _ => de_one ?_
      · exact de_in (k := 0) (by exact hr) (x := x.1) (ys := ws) (de_ixn 0 (ds := EnT.fs x) (de_var (i := 3) rfl) rfl) (de_var (i := 1) rfl) (.tup _)
      · exact de_in (k := 0) (by exact hr) (x := x.2) (ys := ns) (de_ixn 1 (ds := EnT.fs x) (de_var (i := 3) rfl) rfl) (de_var (i := 2) rfl) (.lst _)) (small (m := 1000) hl))) rfl)
end
section
variable {X : Cx} {J : Jn} {env : List SL} {a b c d e f : Expr} {pos p : Pos}
theorem c_is_log (T : Txt X.K X.mg) (hr : Room 1 X.A) {x : Log} {y : List W} {z : List W} (ha : DE X J env a (enc x)) (hb : DE X J env b (enc y)) (hc : DE X J env c (encL z)) (h1 : x.length ≤ 1000) (hg : Gl X "is_log" := by rfl) (s0 : starEach [a, b, c] X.env = (false, eval a X.env) :: starEach [b, c] X.env := by rfl) (s1 : starEach [b, c] X.env = (false, eval b X.env) :: starEach [c] X.env := by rfl) (s2 : starEach [c] X.env = (false, eval c X.env) :: starEach [] X.env := by rfl) (hpl : (backTo pos (starEach [b, c] X.env)).any (·.1) = false := by rfl) :
    DE X J env (.Call (.Name "is_log" p) [a, b, c] [] pos) (.bl (isLog x y z)) := cal_de (cal_is_log T) hr (x, y, z) (da_cons ha (da_cons hb (da_cons hc da_nil s2) s1) s0) h1 hg s0 hpl
end
/-- what faults is handed -/
inductive Th where
  | no | four (st : State) | st (st : State)
def encTh : Th → D
  | .no => .non
  | .four st => .tup [enc st.1, enc st.2.1, enc st.2.2.1, enc st.2.2.2.1]
  | .st st => enc st
def shopWs : List W := [.begun, .go, .drop, .ended, .ret, .returned]
def houseWs : List W := [.reserved, .sent, .released, .back]
def bankWs : List W := [.held, .taken, .freed, .refunded]
def isStB (S : Setup) (st : State) : Bool := isLog st.1 shopWs (S.2.1.map (·.1)) && (decide (st.2.2.1.length = (housesIn S).length) && (isLog st.2.2.2.1 bankWs (S.2.1.map (·.1)) && st.2.2.1.all fun g => isLog g houseWs (S.2.1.map (·.1))))
def isTh (S : Setup) : Th → Bool
  | .st st => isStB S st
  | _ => false
def thLs : Th → Prop
  | .st st => st.1.length ≤ 1000 ∧ st.2.2.1.length ≤ 1000 ∧ (∀ g ∈ st.2.2.1, g.length ≤ 1000) ∧ st.2.2.2.1.length ≤ 1000
  | _ => True
section
variable {P : Program} {w : World} {K : PySem.W.Frag} {mg : Str → Option Value} {base : Heap}
theorem sc_is_state : FnScope ["setup", "thing", "names", "deal", "log"] ["setup", "thing"] (defScope (top 77)) := ⟨rfl, rfl, rfl, by decide +kernel, rfl, by decide +kernel, by decide +kernel⟩
theorem cal_is_state (T : Txt K mg) : Cal P w K mg base "is_state" 2 ["setup", "thing"] (spT K J0 (fun a : Setup × Th => [enc a.1, encTh a.2]) (fun a => SW a.1 ∧ thLs a.2) (fun a d => d = .bl (isTh a.1 a.2))) := by
  refine cal_of T.d_is_state fun f fd F => fn_ok F sc_is_state (fun _ => rfl) fun cdv A outer s H E a hr pre => ?_
  obtain ⟨S, th⟩ := a
  obtain ⟨wf, ls⟩ := pre
  have wf' : SW S := wf
  have ls' : thLs th := ls
  have l1 : S.1.length ≤ 3 := wf'.l1
  have l2 : S.2.1.length ≤ 3 := wf'.l2
  rw [startE_lit 3 rfl]
  show DB _ _ [.d (enc S), .d (encTh th), .no, .no, .no] _ _ (fun d => d = .bl (isTh S th))
  refine db_cons (ds_setD (i := 2) (d := encL (S.2.1.map (·.1))) (DE.cast (d := .lst (S.2.1.map fun d => enc d.1)) (de_fe (df_lc0 (xs := S.2.1) (f := enc) (g := fun d => enc d.1) (t := .nm 3) (own := [("deal", 3)]) (di_tup (de_ixn 1 (de_var (i := 0) rfl) rfl)) rfl sc_is_state.nd (blkOk_by (N := ["setup", "thing", "names", "deal", "log"]) (sc := defScope (top 77)) (by decide +kernel)) (by decide) (fun _ _ _ _ _ => (pg_name (i := 3) sc_is_state.nd rfl (Or.inl rfl))) (fun _ => .nm _ _ _) (fun _ _ _ _ _ x hx => (de_ixn 0 (de_var (i := 3) rfl) rfl)) (small (m := 3) l2))) (by show D.lst _ = D.lst _; rw [List.map_map]; rfl)) sc_is_state.nd ?_)
  show DB _ _ [.d (enc S), .d (encTh th), .d (encL (S.2.1.map (·.1))), .no, .no] _ _ _
  cases th with
  | no =>
    refine db_cons (ds_if (b := true) (dt_w (dw_or (c1 := true) (c2 := true) (dt_not (c1 := false) (dt_val (de_isi (T := "tuple") (n := "NoneType") (r := false) T.f_isinstance (de_var (i := 1) (d := .non) rfl) (de_bty T.f_tuple (by decide +kernel)) rfl (by decide +kernel)))) fun h => absurd h (by decide))) (fun _ => db_cons (ds_retD de_bl rfl)) (fun h => absurd h (by decide)))
  | four st =>
    refine db_cons (ds_if (b := true) (dt_w (dw_or (c1 := false) (c2 := true) (dt_not (c1 := true) (dt_val (de_isi (T := "tuple") (n := "tuple") (r := true) T.f_isinstance (de_var (i := 1) (d := .tup [enc st.1, enc st.2.1, enc st.2.2.1, enc st.2.2.2.1]) rfl) (de_bty T.f_tuple (by decide +kernel)) rfl (by decide +kernel)))) fun _ => (dw_or (c1 := true) (c2 := true) (dt_ne hr (x := (4 : Int)) (y := (5 : Int)) (de_len (ds := [enc st.1, enc st.2.1, enc st.2.2.1, enc st.2.2.2.1]) T.f_len (de_var (i := 1) rfl) (.tup _)) de_int) fun h => absurd h (by decide)))) (fun _ => db_cons (ds_retD de_bl rfl)) (fun h => absurd h (by decide)))
  | st st =>
    obtain ⟨log, heard, logs, bank, letters⟩ := st
    obtain ⟨z1, z2, z3, z4⟩ := ls'
    have z1' : log.length ≤ 1000 := z1
    have z2' : logs.length ≤ 1000 := z2
    have z3' : ∀ g ∈ logs, g.length ≤ 1000 := z3
    have z4' : bank.length ≤ 1000 := z4
    show DB _ _ [.d (enc S), .d (enc (log, heard, logs, bank, letters)), .d (encL (S.2.1.map (·.1))), .no, .no] _ _ (fun d => d = .bl (isStB S (log, heard, logs, bank, letters)))
    unfold isStB
    generalize S.2.1.map (·.1) = ns
    refine db_cons (ds_if (b := false) (dt_w (dw_or (c1 := false) (c2 := false) (dt_not (c1 := true) (dt_val (de_isi (T := "tuple") (n := "tuple") (r := true) T.f_isinstance (de_var (i := 1) rfl) (de_bty T.f_tuple (by decide +kernel)) rfl (by decide +kernel)))) fun _ => (dw_or (c1 := false) (c2 := false) (dt_ne hr (x := (5 : Int)) (y := (5 : Int)) (de_len (ds := [enc log, enc heard, enc logs, enc bank, enc letters]) T.f_len (de_var (i := 1) rfl) (.tup _)) de_int) fun _ => (dw_or1 (dt_not (c1 := true) (dt_val (de_isi (T := "tuple") (n := "tuple") (r := true) T.f_isinstance (de_ixn 2 (ds := [enc log, enc heard, enc logs, enc bank, enc letters]) (de_var (i := 1) rfl) rfl) (de_bty T.f_tuple (by decide +kernel)) rfl (by decide +kernel)))))))) (fun h => absurd h (by decide)) (fun _ => ?_))
    refine db_nil ?_
    refine db_cons (ds_if (dt_not (dt_val (c_is_log T (hr.mono (by decide)) (x := log) (y := shopWs) (z := ns) (de_ixn 0 (ds := [enc log, enc heard, enc logs, enc bank, enc letters]) (de_var (i := 1) rfl) rfl) (de_tup (da_cons (de_gW T.c_BEGUN) (da_cons (de_gW T.c_GO) (da_cons (de_gW T.c_DROP) (da_cons (de_gW T.c_ENDED) (da_cons (de_gW T.c_RETURN) (da_cons (de_gW T.c_RETURNED) da_nil))))))) (de_var (i := 2) rfl) z1'))) (fun h => ?_) (fun h => ?_))
    · rw [Bool.not_eq_true'] at h
      exact db_cons (ds_retD de_bl (by rw [h]; rfl))
    rw [Bool.not_eq_false'] at h
    rw [h, Bool.true_and]
    refine db_nil ?_
    refine db_cons (ds_if (dt_w (dw_or (dt_ne hr (x := ((logs.map (enc : Log → D)).length : Int)) (y := (((housesIn S).map (enc : W → D)).length : Int)) (de_len (ds := logs.map enc) T.f_len (de_ixn 2 (ds := [enc log, enc heard, enc logs, enc bank, enc letters]) (de_var (i := 1) rfl) rfl) (.tup _)) (de_len (ds := (housesIn S).map enc) T.f_len (c_houses_in T (hr.mono (by decide)) (x := S) (de_var (i := 0) rfl) (by omega)) (.lst _))) fun _ => (dw_or1 (dt_not (dt_val (c_is_log T (hr.mono (by decide)) (x := bank) (y := bankWs) (z := ns) (de_ixn 3 (ds := [enc log, enc heard, enc logs, enc bank, enc letters]) (de_var (i := 1) rfl) rfl) (de_tup (da_cons (de_gW T.c_HELD) (da_cons (de_gW T.c_TAKEN) (da_cons (de_gW T.c_FREED) (da_cons (de_gW T.c_REFUNDED) da_nil))))) (de_var (i := 2) rfl) z4')))))) (fun h2 => ?_) (fun h2 => ?_))
    · refine db_cons (ds_retD de_bl ?_)
      rw [List.length_map, List.length_map, Bool.or_eq_true, Bool.not_eq_true', Bool.not_eq_true', decide_eq_false_iff_not] at h2
      rcases h2 with q | q
      · rw [decide_eq_false (fun z => q (by rw [z]))]; rfl
      · rw [q, Bool.false_and, Bool.and_false]
    rw [List.length_map, List.length_map, Bool.or_eq_false_iff, Bool.not_eq_false', Bool.not_eq_false', decide_eq_true_eq] at h2
    rw [decide_eq_true (Int.ofNat.inj h2.1), h2.2, Bool.true_and, Bool.true_and]
    refine db_nil ?_
    refine db_cons (ds_if (b := false) (dt_w (dw_or (c1 := false) (c2 := false) (dt_not (c1 := true) (dt_val (de_isi (T := "tuple") (n := "tuple") (r := true) T.f_isinstance (de_ixn 1 (ds := [enc log, enc heard, enc logs, enc bank, enc letters]) (de_var (i := 1) rfl) rfl) (de_bty T.f_tuple (by decide +kernel)) rfl (by decide +kernel)))) fun _ => (dw_or1 (dt_not (c1 := true) (dt_val (de_isi (T := "tuple") (n := "tuple") (r := true) T.f_isinstance (de_ixn 4 (ds := [enc log, enc heard, enc logs, enc bank, enc letters]) (de_var (i := 1) rfl) rfl) (de_bty T.f_tuple (by decide +kernel)) rfl (by decide +kernel))))))) (fun h => absurd h (by decide)) (fun _ => ?_))
    refine db_nil ?_
    exact db_cons (ds_retD (de_allF (xs := logs) (g := fun g => isLog g houseWs ns) T.f_all (df_lc0 (xs := logs) (f := enc) (t := .nm 4) (own := [("log", 4)]) (di_tup (de_ixn 2 (ds := [enc log, enc heard, enc logs, enc bank, enc letters]) (de_var (i := 1) rfl) rfl)) rfl sc_is_state.nd (blkOk_by (N := ["setup", "thing", "names", "deal", "log"]) (sc := defScope (top 77)) (by decide +kernel)) (by decide) (fun _ _ _ _ _ => (pg_name (i := 4) sc_is_state.nd rfl (Or.inl rfl))) (fun _ => .nm _ _ _)
      (fun _ _ _ _ _ x hx => by
        refine c_is_log T ?_ (x := x) (y := houseWs) (z := ns) ?_ ?_ ?_ (z3' x hx)
        · exact hr.mono (by decide)
        · exact de_var (i := 4) rfl
        · exact de_tup (da_cons (de_gW T.c_RESERVED) (da_cons (de_gW T.c_SENT) (da_cons (de_gW T.c_RELEASED) (da_cons (de_gW T.c_BACK) da_nil))))
        · exact de_var (i := 2) rfl) (small (m := 1000) z2'))) rfl)
end
section
variable {X : Cx} {J : Jn} {env : List SL} {a b c d e f : Expr} {pos p : Pos}
theorem c_is_state (T : Txt X.K X.mg) (hr : Room 2 X.A) {x : Setup} {y : Th} (ha : DE X J env a (enc x)) (hb : DE X J env b (encTh y)) (h1 : SW x) (h2 : thLs y) (hg : Gl X "is_state" := by rfl) (s0 : starEach [a, b] X.env = (false, eval a X.env) :: starEach [b] X.env := by rfl) (s1 : starEach [b] X.env = (false, eval b X.env) :: starEach [] X.env := by rfl) (hpl : (backTo pos (starEach [b] X.env)).any (·.1) = false := by rfl) :
    DE X J env (.Call (.Name "is_state" p) [a, b] [] pos) (.bl (isTh x y)) := cal_de (cal_is_state T) hr (x, y) (da_cons ha (da_cons hb da_nil s1) s0) ⟨h1, h2⟩ hg s0 hpl
end
end Sh
/-! A17: faults, where it returns. -/
namespace Sh
open PySem PySem.Spec PyProof.Rows L2
open En (enc)
section
variable {P : Program} {w : World} {K : PySem.W.Frag} {mg : Str → Option Value} {base : Heap}
theorem sc_faults : FnScope ["supplies", "deals", "buyers", "state", "setup"] ["supplies", "deals", "buyers", "state"] (defScope (top 78)) := ⟨rfl, rfl, rfl, by decide +kernel, rfl, by decide +kernel, by decide +kernel⟩
theorem cal_faults (T : Txt K mg) : Cal P w K mg base "faults" 6 ["supplies", "deals", "buyers", "state"] (spT K J0 (fun a : Setup × State => [enc a.1.1, enc a.1.2.1, enc a.1.2.2, enc a.2]) (fun a => SV a.1 ∧ Ls a.1 a.2 ∧ isStB a.1 a.2 = true) (fun a d => d = encL (faultsIn a.1 a.2))) := by
  refine cal_of T.d_faults fun f fd F => fn_ok F sc_faults (fun _ => rfl) fun cdv A outer s H E a hr pre => ?_
  obtain ⟨S, st⟩ := a
  obtain ⟨sv, ls, ib⟩ := pre
  have sv' : SV S := sv
  have wf' : SW S := sv'.toSW
  have ls' : Ls S st := ls
  have ib' : isStB S st = true := ib
  have hh : (housesIn S).length ≤ 2 := wf'.hh
  have tl : thLs (.st st) := ⟨ls'.l1, by have := ls'.l2; omega, ls'.l3, ls'.l4⟩
  rw [startE_lit 1 rfl]
  show DB _ _ [.d (enc S.1), .d (enc S.2.1), .d (enc S.2.2), .d (enc st), .no] _ _ (fun d => d = encL (faultsIn S st))
  refine db_cons (ds_expr (P := fun _ => True) ((c_need_setup T (hr.mono (by decide)) (x := S) (de_var (i := 0) rfl) (de_var (i := 1) rfl) (de_var (i := 2) rfl) sv').imp fun _ _ => trivial) ?_)
  refine db_cons (ds_setD (i := 4) (d := enc S) (de_tup (da_cons (de_var (i := 0) rfl) (da_cons (de_var (i := 1) rfl) (da_cons (de_var (i := 2) rfl) da_nil)))) sc_faults.nd ?_)
  show DB _ _ [.d (enc S.1), .d (enc S.2.1), .d (enc S.2.2), .d (enc st), .d (enc S)] _ _ _
  refine db_cons (ds_if (dt_not (dt_val (c_is_state T (hr.mono (by decide)) (x := S) (y := .st st) (de_var (i := 4) rfl) (de_var (i := 3) rfl) wf' tl))) (fun h => ?_) (fun h => ?_))
  · exfalso
    have z : isTh S (.st st) = true := ib'
    rw [z] at h
    cases h
  refine db_nil ?_
  exact db_cons (ds_retD (c_faults_in T (hr.mono (by decide)) (x := S) (y := st) (de_var (i := 4) rfl) (de_var (i := 3) rfl) wf' ls') rfl)
end
section
variable {X : Cx} {J : Jn} {env : List SL} {a b c d e f : Expr} {pos p : Pos}
theorem c_faults (T : Txt X.K X.mg) (hr : Room 6 X.A) {x : Setup} {y : State} (ha : DE X J env a (enc x.1)) (hb : DE X J env b (enc x.2.1)) (hc : DE X J env c (enc x.2.2)) (hd : DE X J env d (enc y)) (h1 : SV x) (h2 : Ls x y) (h3 : isStB x y = true) (hg : Gl X "faults" := by rfl) (s0 : starEach [a, b, c, d] X.env = (false, eval a X.env) :: starEach [b, c, d] X.env := by rfl) (s1 : starEach [b, c, d] X.env = (false, eval b X.env) :: starEach [c, d] X.env := by rfl) (s2 : starEach [c, d] X.env = (false, eval c X.env) :: starEach [d] X.env := by rfl) (s3 : starEach [d] X.env = (false, eval d X.env) :: starEach [] X.env := by rfl) (hpl : (backTo pos (starEach [b, c, d] X.env)).any (·.1) = false := by rfl) :
    DE X J env (.Call (.Name "faults" p) [a, b, c, d] [] pos) (encL (faultsIn x y)) := cal_de (cal_faults T) hr (x, y) (da_cons ha (da_cons hb (da_cons hc (da_cons hd da_nil s3) s2) s1) s0) ⟨h1, h2, h3⟩ hg s0 hpl
end
end Sh
/-! Sr1: draws. -/
namespace Sh
open PySem PySem.Spec PyProof.Rows L2
open En (enc)
/-- an expression that comes to v and leaves the heap -/
def VE (X : Cx) (e : Expr) (σ : L2.St) (H : Hp) (v : V) : Prop := ∀ Q : VK, Q v H → wpE X e σ H Q
def VT (X : Cx) (e : Expr) (σ : L2.St) (H : Hp) (b : Bool) : Prop := ∀ Q : Bool → Hp → Prop, Q b H → wpT X e σ H Q
section
variable {X : Cx} {a b c e : Expr} {es : List Expr} {σ : L2.St} {H : Hp} {x y z v : V} {pos p : Pos} {i j : Int}
theorem ve_var {k : Nat} {n : Str} (h : σ[k]? = some (some v)) (hN : X.N[k]? = some n := by rfl) (hv : Vis X.env.scope n := by first | exact Or.inl rfl | exact Or.inr (Or.inl rfl) | exact Or.inr (Or.inr rfl)) (hd : (n == ("__debug__" : Str)) = false := by decide) (hcd : (n == ("__classdict__" : Str)) = false := by decide) : VE X (.Name n pos) σ H v := fun Q q => wp_of (pe_var hN hv hd hcd) ⟨v, h, q⟩
theorem ve_int {k} : VE X (.Constant (.int i) k pos) σ H (.int i) := fun Q q => wp_of pe_int q
theorem ve_op {op : Operator} {r : R2} (ho : OpR X (binaryOp op) r) (ha : VE X a σ H x) (hb : VE X b σ H y) (hr : ∀ Q : VK, Q z H → r x y H Q) : VE X (.BinOp a op b pos) σ H z := fun Q q => wp_of (pe_op ho pe_wp pe_wp) (ha _ (hb _ (hr Q q)))
theorem ve_ix {r : R2} (ho : IxR X r) (ha : VE X a σ H x) (hb : VE X b σ H y) (hr : ∀ Q : VK, Q z H → r x y H Q) (hs : PlainIx b := by exact fun _ _ => rfl) : VE X (.Subscript a b pos) σ H z := fun Q q => wp_of (pe_ix ho pe_wp pe_wp hs) (ha _ (hb _ (hr Q q)))
theorem ve_add (ha : VE X a σ H (.int i)) (hb : VE X b σ H (.int j)) : VE X (.BinOp a .Add b pos) σ H (.int (i + j)) := ve_op op_add ha hb fun Q q => ⟨i, j, rfl, rfl, q⟩
theorem ve_sub (ha : VE X a σ H (.int i)) (hb : VE X b σ H (.int j)) : VE X (.BinOp a .Sub b pos) σ H (.int (i - j)) := ve_op op_sub ha hb fun Q q => ⟨i, j, rfl, rfl, q⟩
theorem ve_mul (ha : VE X a σ H (.int i)) (hb : VE X b σ H (.int j)) (h : CMulW i j) : VE X (.BinOp a .Mult b pos) σ H (.int (i * j)) := ve_op op_mulW ha hb fun Q q => ⟨i, j, rfl, rfl, h, q⟩
theorem ve_fdiv (ha : VE X a σ H (.int i)) (hb : VE X b σ H (.int j)) (h : CDivW i j) : VE X (.BinOp a .FloorDiv b pos) σ H (.int (i / j)) := ve_op op_fdivW ha hb fun Q q => ⟨i, j, rfl, rfl, h, q⟩
theorem ve_mod (ha : VE X a σ H (.int i)) (hb : VE X b σ H (.int j)) (h : 0 < j) : VE X (.BinOp a .Mod b pos) σ H (.int (i % j)) := ve_op op_mod ha hb fun Q q => ⟨i, j, rfl, rfl, h, q⟩
theorem ve_pow (ha : VE X a σ H (.int i)) (hb : VE X b σ H (.int j)) (h : CPow i j) : VE X (.BinOp a .Pow b pos) σ H (.int (i ^ j.toNat)) := ve_op op_pow ha hb fun Q q => ⟨i, j, rfl, rfl, h, q⟩
theorem ve_li {l : Addr} {xs : List V} (ha : VE X a σ H (.ref l)) (hl : SqL X.K H l xs) (hb : VE X b σ H (.int i)) (h : atI xs i = some v) (hs : PlainIx b := by exact fun _ _ => rfl) : VE X (.Subscript a b pos) σ H v := ve_ix ix_list ha hb (fun Q q => ⟨l, xs, i, v, rfl, rfl, hl, h, q⟩) hs
theorem ve_intc (hm : X.mg "int" = none) (ha : VE X a σ H (.int i)) (hg : Gl X "int" := by rfl) (he : starEach [a] X.env = (false, eval a X.env) :: starEach [] X.env := by rfl) (hpl : (backTo pos (starEach [] X.env)).any (·.1) = false := by rfl) : VE X (.Call (.Name "int" p) [a] [] pos) σ H (.int i) := fun Q q =>
  wp_of (pe_callTy call_int1 hg hm (by decide +kernel) (pa_cons pe_wp pa_nil he) (by decide) (by decide) he hpl) (ha _ (.inl ⟨i, rfl, q⟩))
theorem ve_len {l : Addr} {xs : List V} (hm : X.mg "len" = none) (ha : VE X a σ H (.ref l)) (hl : SqL X.K H l xs) (hg : Gl X "len" := by rfl) (he : starEach [a] X.env = (false, eval a X.env) :: starEach [] X.env := by rfl) (hpl : (backTo pos (starEach [] X.env)).any (·.1) = false := by rfl) : VE X (.Call (.Name "len" p) [a] [] pos) σ H (.int (xs.length : Int)) := fun Q q =>
  wp_of (pe_callB call_len_seq hg hm PySem.boot_len (pa_cons pe_wp pa_nil he) (by decide) (by decide) he hpl) (ha _ ⟨l, xs, rfl, .inl hl, q⟩)
theorem vt_gt (ha : VE X a σ H (.int i)) (hb : VE X b σ H (.int j)) : VT X (.Compare a [.Gt] [b] pos) σ H (decide (j < i)) := fun Q q => wpT_of (pt_cmpR op_gt pe_wp pe_wp (nomark _)) (ha _ (hb _ ⟨i, j, rfl, rfl, _, rfl, q⟩))
theorem vt_ge (ha : VE X a σ H (.int i)) (hb : VE X b σ H (.int j)) : VT X (.Compare a [.GtE] [b] pos) σ H (decide (j ≤ i)) := fun Q q => wpT_of (pt_cmpR op_ge pe_wp pe_wp (nomark _)) (ha _ (hb _ ⟨i, j, rfl, rfl, _, rfl, q⟩))
end
/-- a block that returns some result -/
def VB (X : Cx) (sts : List Stmt) (σ : L2.St) (H : Hp) (R : V → Hp → Prop) (N : L2.St → Hp → Prop) : Prop := ∀ Dn : Ends, (∀ v H', R v H' → Dn.rt v H') → (∀ σ' H', N σ' H' → Dn.nx σ' H') → wpB X sts Dn σ H
section
variable {X : Cx} {a b c e : Expr} {sts thn els : List Stmt} {σ : L2.St} {H : Hp} {x v : V} {pos p ps : Pos} {i j : Int} {R : V → Hp → Prop} {N : L2.St → Hp → Prop}
theorem vb_nil (h : N σ H) : VB X [] σ H R N := fun Dn _ n => wpB_of pss_nil (n _ _ h)
theorem vb_set {k : Nat} {n : Str} {pn : Pos} (he : VE X e σ H v) (k1 : VB X sts (σ.set k (some v)) H R N) (hN : X.N.Nodup) (hi : X.N[k]? = some n := by rfl) (hx : Loc X.env.scope n := by first | exact Or.inl rfl | exact Or.inr rfl) (hf : X.fn n = true ∨ X.env.scope.names.lookup n = some .local := by first | exact Or.inl rfl | exact Or.inr rfl) (hs : swapsWithSole [.Name n pn] e pos.line X.env = pure false := by rfl) (hw : swappedStores [.Name n pn] e X.env = pure none := by rfl) (h1 : (assignEach [.Name n pn] X.env).map (·.2) = [assign (.Name n pn) X.env] := by rfl) : VB X (.Assign [.Name n pn] e pos :: sts) σ H R N := fun Dn r n =>
  wpB_of (pss_cons (ps_asg pe_wp (pg_name hN hi hx hf) hs hw h1) pss_wp) (he _ (k1 Dn r n))
theorem vb_ret (he : VE X e σ H v) (h : R v H) : VB X (.Return (some e) pos :: sts) σ H R N := fun Dn r n => wpB_of (pss_cons (ps_ret pe_wp) (pss_wp (st := sts))) (he _ (r _ _ h))
theorem vb_if {q : Bool} (hc : VT X c σ H q) (ht : q = true → VB X thn σ H R (fun σ' H' => VB X sts σ' H' R N)) (hf : q = false → VB X els σ H R (fun σ' H' => VB X sts σ' H' R N)) : VB X (.If c thn els pos :: sts) σ H R N := fun Dn r n =>
  wpB_of (pss_cons (ps_if pt_wp pss_wp pss_wp) (pss_wp (st := sts))) (hc _ (by
    cases q with
    | true => rw [if_pos rfl]; exact ht rfl _ r fun σ' H' h => h Dn r n
    | false => rw [if_neg Bool.false_ne_true]; exact hf rfl _ r fun σ' H' h => h Dn r n))
/-- row[j] = e -/
theorem vb_put {l : Addr} {xs : List V} {k : Nat} (he : VE X e σ H v) (ho : VE X a σ H (.ref l)) (hl : H l = some (.lst xs)) (hi : VE X b σ H (.int j)) (hj : ixN xs.length j = some k) (k1 : VB X sts σ (upd H l (.lst (xs.set k v))) R N)
    (ha : ∀ v, assign (.Subscript a b ps) X.env v = (do
      let ov ← holding [v] (eval a X.env)
      let iv ← holding [v, ov] (eval b X.env)
      standAt ps
      holding [v, ov, iv] (setItem ov iv v)
      release [v, ov, iv] []) := by intro _; rfl)
    (hs : swapsWithSole [.Subscript a b ps] e pos.line X.env = pure false := by rfl) (hw : swappedStores [.Subscript a b ps] e X.env = pure none := by rfl) (h1 : (assignEach [.Subscript a b ps] X.env).map (·.2) = [assign (.Subscript a b ps) X.env] := by rfl) : VB X (.Assign [.Subscript a b ps] e pos :: sts) σ H R N := fun Dn r n =>
  wpB_of (pss_cons (ps_asg pe_wp (pg_sub pe_wp pe_wp set_list ha) hs hw h1) pss_wp) (he _ (ho _ (hi _ ⟨l, xs, j, k, rfl, rfl, hl, hj, k1 Dn r n⟩)))
end
end Sh
/-! Sr2: _law_taken. -/
namespace Sh
open PySem PySem.Spec PyProof.Rows L2
open En (enc)
def rowV (sc : Addr) (i s r : Int) : List V := [.ref sc, .int i, .int s, .int r]
def spTaken (K : PySem.W.Frag) : Sp := fun vs H Q _ => ∃ (p sc : Addr) (cells : List Int) (i s r : Int) (many : Nat), vs = [.ref p, .int (many : Nat)] ∧ (sc ≠ p ∨ ∀ H', SqL K H' sc (cells.map V.int)) ∧ H p = some (.lst (rowV sc i s r)) ∧ SqL K H sc (cells.map V.int) ∧ 0 ≤ i ∧ 0 ≤ s ∧ s < 2147483647 ∧ 0 < many ∧ many ≤ 1000 ∧
  ∀ (n : Nat) (i' s' r' : Int), n < many → 0 ≤ i' → 0 ≤ s' → s' < 2147483647 → Q (.int (n : Nat)) (upd H p (.lst (rowV sc i' s' r')))
theorem mod_nat (x : Int) {m : Nat} (h : 0 < m) : ∃ n : Nat, n < m ∧ x % (m : Int) = (n : Int) := by
  have h1 : 0 ≤ x % (m : Int) := Int.emod_nonneg _ (by omega)
  have h2 : x % (m : Int) < m := Int.emod_lt_of_pos _ (by omega)
  exact ⟨(x % (m : Int)).toNat, by omega, by omega⟩
theorem cdiv_ok {x : Int} {m : Nat} (h : 0 < m) (h2 : m ≤ 1000) : CDivW x (m : Int) := by
  refine ⟨by omega, ?_⟩
  have e : ((m : Int)).natAbs = m := rfl
  rw [e]
  exact Nat.lt_of_lt_of_le (Nat.log2_lt (Nat.pos_iff_ne_zero.mp h) |>.mpr (show m < 2 ^ 10 by omega)) (by decide)
theorem cmul_ok {s : Int} (h0 : 0 ≤ s) (h : s < 2147483647) : CMulW s 48271 := by
  have e : s.natAbs < 2 ^ 31 := by omega
  exact wide_mul (a := 31) (b := 17) e (by decide) (by decide) (by decide) (by decide)
section
variable {P : Program} {w : World} {K : PySem.W.Frag} {mg : Str → Option Value} {base : Heap}
theorem sc_law_taken : FnScope ["_law_row", "_law_many", "_law_found", "_law_cell"] ["_law_row", "_law_many"] (defScope (top 81)) := ⟨rfl, rfl, rfl, by decide +kernel, rfl, by decide +kernel, by decide +kernel⟩
theorem ok_law_taken (T : Txt K mg) {f : Addr} {fd : FuncData} (F : Fun K "_law_taken" "_law_taken" (top 81) f fd) : FnOk P w K mg base CX0 1 f fd ["_law_row", "_law_many"] (spTaken K) := by
  refine F.ok sc_law_taken (fun vs H Q E hs => ?_) (fun cdv A outer s0 H vs Q E hr hs => ⟨wpB _ (defBody (top 81)), pss_wp, ?_⟩)
  · obtain ⟨p, sc, cells, i, s, r, many, rfl, _⟩ := hs
    rfl
  obtain ⟨p, sc, cells, i, s, r, many, rfl, ne, hp, hc, i0, s0', s1, m0, m1, q⟩ := hs
  have vb : VB (bodyX P w K mg base ["_law_row", "_law_many", "_law_found", "_law_cell"] "_law_taken" (top 81) f cdv A outer s0 H E) (defBody (top 81)) [some (.ref p), some (.int (many : Nat)), none, none] H (fun v H' => ∃ (n : Nat) (i' s' r' : Int), n < many ∧ 0 ≤ i' ∧ 0 ≤ s' ∧ s' < 2147483647 ∧ v = .int (n : Nat) ∧ H' = upd H p (.lst (rowV sc i' s' r'))) (fun _ _ => False) := by
    have sL : ∀ {H' : Hp} {x : List V}, H' p = some (.lst x) → SqL K H' p x := fun h => .inl (.inl h)
    have sC : ∀ (x : List V), SqL K (upd H p (.lst x)) sc (cells.map V.int) := fun x => by
      rcases ne with ne | ne
      · rcases hc with (hc | ⟨o, hc⟩) | hc
        · exact .inl (.inl (by rw [upd_ne ne]; exact hc))
        · exact .inl (.inr ⟨o, by rw [upd_ne ne]; exact hc⟩)
        · exact .inr hc
      · exact ne _
    refine vb_if (q := decide (0 < r)) (vt_gt (ve_li (ve_var (k := 0) rfl) (sL hp) ve_int (atI_nat (j := 3) rfl)) ve_int) (fun h => ?_) (fun h => ?_)
    · obtain ⟨n, hn, en⟩ := mod_nat r m0
      refine vb_set (k := 2) (ve_mod (ve_intc T.f_int (ve_li (ve_var (k := 0) rfl) (sL hp) ve_int (atI_nat (j := 3) rfl))) (ve_var (k := 1) rfl) (by omega)) ?_ sc_law_taken.nd
      refine vb_put (xs := rowV sc i s r) (ve_fdiv (ve_li (ve_var (k := 0) rfl) (sL hp) ve_int (atI_nat (j := 3) rfl)) (ve_var (k := 1) rfl) (cdiv_ok m0 m1)) (ve_var (k := 0) rfl) hp ve_int (k := 3) rfl ?_
      refine vb_ret (ve_var (k := 2) rfl) ⟨n, i, s, r / (many : Int), hn, i0, s0', s1, by rw [en], rfl⟩
    refine vb_nil ?_
    have hp1 : ∀ {x : HO}, upd H p x p = some x := fun {x} => upd_same
    refine vb_put (xs := rowV sc i s r) (ve_add (ve_li (ve_var (k := 0) rfl) (sL hp) ve_int (atI_nat (j := 1) rfl)) ve_int) (ve_var (k := 0) rfl) hp ve_int (k := 1) rfl ?_
    show VB _ _ _ (upd H p (.lst (rowV sc (i + 1) s r))) _ _
    refine vb_if (q := decide ((((cells.map V.int).length : Nat) : Int) < i + 1)) (vt_gt (ve_li (ve_var (k := 0) rfl) (sL hp1) ve_int (atI_nat (j := 1) rfl)) (ve_len T.f_len (ve_li (ve_var (k := 0) rfl) (sL hp1) ve_int (atI_nat (j := 0) rfl)) (sC _))) (fun h2 => ?_) (fun h2 => ?_)
    · obtain ⟨n, hn, en⟩ := mod_nat (((s * 48271 + 11) % 2147483647) / 7) m0
      refine vb_put (xs := rowV sc (i + 1) s r) (v := .int ((s * 48271 + 11) % 2147483647)) (ve_mod (ve_intc T.f_int (ve_add (ve_mul (ve_li (ve_var (k := 0) rfl) (sL hp1) ve_int (atI_nat (j := 2) rfl)) ve_int (cmul_ok s0' s1)) ve_int)) ve_int (by decide)) (ve_var (k := 0) rfl) hp1 ve_int (k := 2) rfl ?_
      rw [upd_upd]
      show VB _ _ _ (upd H p (.lst (rowV sc (i + 1) ((s * 48271 + 11) % 2147483647) r))) _ _
      refine vb_ret (ve_mod (ve_intc T.f_int (ve_fdiv (ve_li (ve_var (k := 0) rfl) (sL hp1) ve_int (atI_nat (j := 2) rfl)) ve_int (cdiv_ok (m := 7) (by decide) (by decide)))) (ve_var (k := 1) rfl) (by omega)) ⟨n, i + 1, (s * 48271 + 11) % 2147483647, r, hn, by omega, by omega, by omega, by rw [← en], rfl⟩
    refine vb_nil ?_
    have hlen : i.toNat < cells.length := by
      rw [decide_eq_false_iff_not, List.length_map] at h2
      omega
    have hget : atI (cells.map V.int) (i + 1 - 1) = some (V.int cells[i.toNat]) := by
      have e : i + 1 - 1 = ((i.toNat : Nat) : Int) := by omega
      rw [e]
      exact atI_nat (by rw [List.getElem?_map, List.getElem?_eq_getElem hlen]; rfl)
    generalize cells[i.toNat] = c at hget
    refine vb_set (k := 3) (ve_li (ve_li (ve_var (k := 0) rfl) (sL hp1) ve_int (atI_nat (j := 0) rfl)) (sC _) (ve_sub (ve_li (ve_var (k := 0) rfl) (sL hp1) ve_int (atI_nat (j := 1) rfl)) ve_int) hget) ?_ sc_law_taken.nd
    refine vb_put (xs := rowV sc (i + 1) s r) (v := .int ((s * 48271 + c + 11) % 2147483647)) (ve_mod (ve_intc T.f_int (ve_add (ve_add (ve_mul (ve_li (ve_var (k := 0) rfl) (sL hp1) ve_int (atI_nat (j := 2) rfl)) ve_int (cmul_ok s0' s1)) (ve_var (k := 3) rfl)) ve_int)) ve_int (by decide)) (ve_var (k := 0) rfl) hp1 ve_int (k := 2) rfl ?_
    rw [upd_upd]
    show VB _ _ _ (upd H p (.lst (rowV sc (i + 1) ((s * 48271 + c + 11) % 2147483647) r))) _ _
    have e0 : 0 ≤ (s * 48271 + c + 11) % 2147483647 := by omega
    have e1 : (s * 48271 + c + 11) % 2147483647 < 2147483647 := by omega
    generalize (s * 48271 + c + 11) % 2147483647 = s' at e0 e1
    obtain ⟨n, hn, en⟩ := mod_nat c m0
    refine vb_if (q := decide (((10 : Int) ^ ((18 : Int)).toNat) ≤ c)) (vt_ge (ve_var (k := 3) rfl) (ve_pow ve_int ve_int ⟨by decide, by decide, by decide⟩)) (fun h3 => ?_) (fun h3 => ?_)
    · refine vb_put (xs := rowV sc (i + 1) s' r) (v := .int (c / (many : Int))) (ve_fdiv (ve_var (k := 3) rfl) (ve_var (k := 1) rfl) (cdiv_ok m0 m1)) (ve_var (k := 0) rfl) hp1 ve_int (k := 3) rfl ?_
      rw [upd_upd]
      refine vb_nil ?_
      exact vb_ret (ve_mod (ve_intc T.f_int (ve_var (k := 3) rfl)) (ve_var (k := 1) rfl) (by omega)) ⟨n, i + 1, s', c / (many : Int), hn, by omega, e0, e1, by rw [← en], rfl⟩
    refine vb_nil ?_
    exact vb_ret (ve_mod (ve_intc T.f_int (ve_var (k := 3) rfl)) (ve_var (k := 1) rfl) (by omega)) ⟨n, i + 1, s', r, hn, by omega, e0, e1, by rw [← en], rfl⟩
  exact vb { nx := fun _ H' => Q .non H', rt := Q } (fun v H' h => by
    obtain ⟨n, i', s', r', h1, h2, h3, h4, rfl, rfl⟩ := h
    exact q n i' s' r' h1 h2 h3 h4) (fun _ _ h => h.elim)
end
end Sh
/-! Sr3: draws in the data layer. -/
namespace Sh
open PySem PySem.Spec PyProof.Rows L2
open En (enc)
/-- where the row of draws stands -/
structure RowC (K : PySem.W.Frag) where
  p : Addr
  sc : Addr
  cells : List Int
  hs : Prop
  hc : hs ∨ ∀ H, SqL K H sc (cells.map V.int)
theorem sqL_keep {K : PySem.W.Frag} {H H' : Hp} {a : Addr} {xs : List V} (h : SqL K H a xs) (e : H' a = H a) : SqL K H' a xs := by
  rcases h with (h | ⟨o, h⟩) | h
  · exact .inl (.inl (e.trans h))
  · exact .inl (.inr ⟨o, e.trans h⟩)
  · exact .inr h
def JR {K : PySem.W.Frag} (R : RowC K) : Jn where
  M a := a = R.p ∨ (a = R.sc ∧ R.hs)
  inv H := (R.sc ≠ R.p ∨ ∀ H', SqL K H' R.sc (R.cells.map V.int)) ∧ ∃ i s r : Int, H R.p = some (.lst (rowV R.sc i s r)) ∧ SqL K H R.sc (R.cells.map V.int) ∧ 0 ≤ i ∧ 0 ≤ s ∧ s < 2147483647
  st := fun H H' h e => by
    obtain ⟨ne, i, s, r, hp, hq, k⟩ := h
    refine ⟨ne, i, s, r, (e R.p (.inl rfl)).trans hp, ?_, k⟩
    rcases R.hc with hc | hc
    · exact sqL_keep hq (e R.sc (.inr ⟨rfl, hc⟩))
    · exact hc H'
theorem up_row {K : PySem.W.Frag} {R : RowC K} {G H : Hp} (b : Bs (JR R) G H) {i' s' r' : Int} (h1 : 0 ≤ i') (h2 : 0 ≤ s') (h3 : s' < 2147483647) : Up (JR R) G H G (upd H R.p (.lst (rowV R.sc i' s' r'))) := by
  have hm : (JR R).M R.p := .inl rfl
  refine ⟨Same.refl G, fun a u e => ?_, fun a o n e => ?_, fun a e => ?_, fun a e e2 => e, ?_⟩
  · have ne : a ≠ R.p := fun z => by rw [z, (b.al _ hm).2] at e; cases e
    rw [upd_ne ne]; exact b.gh a u e
  · rw [upd_ne fun z => n (by rw [z]; exact hm)]; exact e
  · by_cases z : a = R.p
    · rw [z, upd_same]; simp
    · rw [upd_ne z]; exact e
  · obtain ⟨ne, i, s, r, hp, hq, k⟩ := b.inv
    exact ⟨ne, i', s', r', upd_same, ne.elim (fun ne => sqL_keep hq (upd_ne ne)) (fun k => k _), h1, h2, h3⟩
section
variable {P : Program} {w : World} {K : PySem.W.Frag} {mg : Str → Option Value} {base : Heap}
theorem cal_law_taken (T : Txt K mg) (R : RowC K) : Cal P w K mg base "_law_taken" 1 ["_law_row", "_law_many"] (spT K (JR R) (fun m : Nat => [.raw (.ref R.p), .int (m : Nat)]) (fun m => 0 < m ∧ m ≤ 1000) (fun m d => ∃ n : Nat, n < m ∧ d = .int (n : Nat))) := by
  refine cal_of T.d_law_taken fun f fd F => (ok_law_taken T F).imp fun vs H Q E h => ?_
  obtain ⟨G, m, b, al, pre, q⟩ := h
  have pre' : 0 < m ∧ m ≤ 1000 := pre
  obtain ⟨v0, v1, rfl, r0, r1⟩ := isAll2 al
  obtain ⟨ne, i, s, r, hp, hq, i0, s0, s1⟩ := b.inv
  refine ⟨R.p, R.sc, R.cells, i, s, r, m, by rw [r0.raw_inv, r1.int_inv], ne, hp, hq, i0, s0, s1, pre'.1, pre'.2, fun n i' s' r' hn h1 h2 h3 => ?_⟩
  exact q _ (.int (n : Nat)) G _ (up_row b h1 h2 h3) (.int _) ⟨n, hn, rfl⟩
end
section
variable {X : Cx} {J : Jn} {env : List SL} {e a b c : Expr} {es rest : List Expr} {pos p : Pos} {k : Nat} {ps : List Str} {α : Type} {args : α → List D} {Pre : α → Prop} {Post : α → D → Prop} {x : Str} {PA : List D → Prop} {P P1 P2 : D → Prop} {B B1 B2 : Bool → Prop}
theorem cal_epJ (C : Cal X.prog X.w X.K X.mg X.base x k ps (spT X.K J args Pre Post)) (hr : Room k X.A) (ha : AP' X J env (e :: es) PA) (hpre : ∀ ds, PA ds → ∃ a, ds = args a ∧ Pre a ∧ ∀ d, Post a d → P2 d)
    (hg : Gl X x := by rfl) (he : starEach (e :: es) X.env = (false, eval e X.env) :: starEach es X.env := by rfl) (hpl : (backTo pos (starEach es X.env)).any (·.1) = false := by rfl) (hdb : (x == ("__debug__" : Str)) = false := by decide) : EP' X J env (.Call (.Name x p) (e :: es) [] pos) P2 := by
  obtain ⟨f, fd, F, hm, hk, hb⟩ := C.ex
  exact ep_callJ F hm hk hb hr ha hpre hg hdb he hpl
theorem cal_eeJ (C : Cal X.prog X.w X.K X.mg X.base x k ps (spT X.K J args Pre Post)) (hr : Room k X.A) (a : α) (ha : DA X J env (e :: es) (args a)) (hpre : Pre a)
    (hg : Gl X x := by rfl) (he : starEach (e :: es) X.env = (false, eval e X.env) :: starEach es X.env := by rfl) (hpl : (backTo pos (starEach es X.env)).any (·.1) = false := by rfl) (hdb : (x == ("__debug__" : Str)) = false := by decide) : EP' X J env (.Call (.Name x p) (e :: es) [] pos) (Post a) :=
  cal_epJ C hr ha (fun ds e => ⟨a, e, hpre, fun d h => h⟩) hg he hpl hdb
/-- _law_taken(row, m) -/
theorem c_law_taken (T : Txt X.K X.mg) {R : RowC X.K} (hr : Room 1 X.A) (m : Nat) (ha : DE X (JR R) env a (.raw (.ref R.p))) (hb : DE X (JR R) env b (.int (m : Nat))) (h0 : 0 < m) (h1 : m ≤ 1000) (hg : Gl X "_law_taken" := by rfl) (s0 : starEach [a, b] X.env = (false, eval a X.env) :: starEach [b] X.env := by rfl) (s1 : starEach [b] X.env = (false, eval b X.env) :: starEach [] X.env := by rfl) (hpl : (backTo pos (starEach [b] X.env)).any (·.1) = false := by rfl) :
    EP' X (JR R) env (.Call (.Name "_law_taken" p) [a, b] [] pos) (fun d => ∃ n : Nat, n < m ∧ d = .int (n : Nat)) :=
  cal_eeJ (cal_law_taken T R) hr m (da_cons ha (da_cons hb da_nil s1) s0) ⟨h0, h1⟩ hg s0 hpl
/-! ### rules with predicates -/
theorem RB.all {K : PySem.W.Frag} {r : R2} (h : ∀ x y, P x → P1 y → RB K J r (· = x) (· = y) P2) : RB K J r P P1 P2 := fun v u d e G H Q b r1 r2 p1 p2 q => h d e p1 p2 v u d e G H Q b r1 r2 rfl rfl q
abbrev nI (N : Nat → Prop) (d : D) : Prop := ∃ n : Nat, N n ∧ d = .int (n : Nat)
theorem ep_addN {i : Nat} {N : Nat → Prop} (ha : DE X J env a (.int (i : Nat))) (hb : EP' X J env b (nI N)) : EP' X J env (.BinOp a .Add b pos) (fun d => ∃ n : Nat, N n ∧ d = .int ((i + n : Nat) : Nat)) :=
  ep_op op_add (RB.all fun x y e1 ⟨n, hn, e2⟩ => by
    subst e1 e2
    exact fun v u d e G H Q b r1 r2 p1 p2 q => rb_add (i := i) (j := n) v u d e G H Q b r1 r2 p1 p2 fun w f G1 H1 up r pf => q w f G1 H1 up r ⟨n, hn, by rw [pf]; rfl⟩) ha hb
/-- things[n], n any place -/
theorem ep_ixLN {ds : List D} (ha : DE X J env a (.lst ds)) (hb : EP' X J env b (nI fun n => n < ds.length)) (hs : PlainIx b := by exact fun _ _ => rfl) : EP' X J env (.Subscript a b pos) (fun d => d ∈ ds) :=
  ep_ix ix_list (RB.all fun x y e1 ⟨n, hn, e2⟩ => by
    subst e1 e2
    exact fun v u d e G H Q b r1 r2 p1 p2 q => rb_ixL (ds := ds) (i := n) (d := ds[n]) (atI_nat (List.getElem?_eq_getElem hn)) v u d e G H Q b r1 r2 p1 p2 fun w f G1 H1 up r pf => q w f G1 H1 up r (by rw [pf]; exact List.getElem_mem hn)) ha hb hs
theorem ep_ixTN {ds : List D} (ha : DE X J env a (.tup ds)) (hb : EP' X J env b (nI fun n => n < ds.length)) (hs : PlainIx b := by exact fun _ _ => rfl) : EP' X J env (.Subscript a b pos) (fun d => d ∈ ds) :=
  ep_ix ix_tup (RB.all fun x y e1 ⟨n, hn, e2⟩ => by
    subst e1 e2
    exact fun v u d e G H Q b r1 r2 p1 p2 q => rb_ixT (ds := ds) (i := n) (d := ds[n]) (atI_nat (List.getElem?_eq_getElem hn)) v u d e G H Q b r1 r2 p1 p2 fun w f G1 H1 up r pf => q w f G1 H1 up r (by rw [pf]; exact List.getElem_mem hn)) ha hb hs
theorem ep_ifP (hc : TP' X J env c B) (ha : B true → EP' X J env a P) (hb : B false → EP' X J env b P) : EP' X J env (.IfExp c a b pos) P := fun G0 H0 σ H G Q s q => wp_of (pe_ifExp pt_wp pe_wp pe_wp) (hc G0 H0 σ H G _ s fun b' G1 H1 u e => by
  cases b' with
  | true => rw [if_pos rfl]; exact ha e G0 H0 σ H1 G1 _ (s.ext u) fun v d G2 H2 u2 r p => q v d G2 H2 (u.trans u2) r p
  | false => rw [if_neg Bool.false_ne_true]; exact hb e G0 H0 σ H1 G1 _ (s.ext u) fun v d G2 H2 u2 r p => q v d G2 H2 (u.trans u2) r p)
def DWP (X : Cx) (J : Jn) (env : List SL) (e : Expr) (B : Bool → Prop) : Prop := ∀ (G0 H0 : Hp) (σ : L2.St) (H G : Hp) (Q : Bool → Hp → Prop), StG X.K J G0 H0 env σ H G →
  (∀ b G1 H1, Up J G H G1 H1 → B b → Q b H1) → wpW X e σ H Q
theorem tp_w (h : DWP X J env e B) : TP' X J env e B := fun G0 H0 σ H G Q s q => wpT_of pw_wp.pt (h G0 H0 σ H G Q s q)
theorem dwp_and1 (h : TP' X J env a B) : DWP X J env (.BoolOp .And [a] pos) B := fun G0 H0 σ H G Q s q wh pins st I => (pw_and1 pt_wp).run wh pins st σ H Q I (h G0 H0 σ H G Q s q)
theorem dwp_or1 (h : TP' X J env a B) : DWP X J env (.BoolOp .Or [a] pos) B := fun G0 H0 σ H G Q s q wh pins st I => (pw_or1 pt_wp).run wh pins st σ H Q I (h G0 H0 σ H G Q s q)
theorem dwp_and (h : TP' X J env a B1) (h2 : B1 true → DWP X J env (.BoolOp .And (b :: rest) pos) B) (k : B1 false → B false) : DWP X J env (.BoolOp .And (a :: b :: rest) pos) B := fun G0 H0 σ H G Q s q wh pins st I =>
  (pw_and pt_wp pw_wp).run wh pins st σ H Q I (h G0 H0 σ H G _ s fun b' G1 H1 u e => by
    cases b' with
    | true => rw [if_pos rfl]; exact h2 e G0 H0 σ H1 G1 _ (s.ext u) fun b2 G2 H2 u2 p2 => q b2 G2 H2 (u.trans u2) p2
    | false => rw [if_neg Bool.false_ne_true]; exact q _ G1 H1 u (k e))
theorem dwp_or (h : TP' X J env a B1) (h2 : B1 false → DWP X J env (.BoolOp .Or (b :: rest) pos) B) (k : B1 true → B true) : DWP X J env (.BoolOp .Or (a :: b :: rest) pos) B := fun G0 H0 σ H G Q s q wh pins st I =>
  (pw_or pt_wp pw_wp).run wh pins st σ H Q I (h G0 H0 σ H G _ s fun b' G1 H1 u e => by
    cases b' with
    | true => rw [if_pos rfl]; exact q _ G1 H1 u (k e)
    | false => rw [if_neg Bool.false_ne_true]; exact h2 e G0 H0 σ H1 G1 _ (s.ext u) fun b2 G2 H2 u2 p2 => q b2 G2 H2 (u.trans u2) p2)
theorem tp_val (h : EP' X J env e (fun d => ∃ b, d = .bl b ∧ B b)) (he : ∀ whole, isTrue e X.env whole = (do let v ← whole; standAt e.pos; holding [v] (truthy v)) := by intro _; rfl) : TP' X J env e B := fun G0 H0 σ H G Q s q => wpT_of (pt_val pe_wp he) (h G0 H0 σ H G _ s fun v d G1 H1 u r p => by
  obtain ⟨b, rfl, pb⟩ := p
  exact ⟨b, r.bl_inv, q b G1 H1 u pb⟩)
theorem tp_not (h : TP' X J env a B) (k : ∀ b, B b → B1 (!b)) : TP' X J env (.UnaryOp .Not a pos) B1 := fun G0 H0 σ H G Q s q => wpT_of (pt_not pt_wp) (h G0 H0 σ H G _ s fun b G1 H1 u e => q _ G1 H1 u (k b e))
theorem rb_any {K : PySem.W.Frag} {r : R2} {Pa Pb : D → Prop} (h : ∀ x y, Pa x → Pb y → ∃ c, RB K J r (· = x) (· = y) (· = .bl c)) : RB K J r Pa Pb (fun f => ∃ b, f = .bl b ∧ True) := RB.all fun x y h1 h2 v u d e G H Q b r1 r2 p1 p2 q => by
  obtain ⟨c, hc⟩ := h x y h1 h2
  exact hc v u d e G H Q b r1 r2 p1 p2 fun w f G1 H1 up r pf => q w f G1 H1 up r ⟨c, pf, trivial⟩
/-- n > j, n some int -/
theorem tp_gtN {N : Nat → Prop} {j : Int} (ha : EP' X J env a (nI N)) (hb : DE X J env b (.int j)) : TP' X J env (.Compare a [.Gt] [b] pos) (fun _ => True) :=
  tp_cmp op_gt (rb_any fun x y ⟨n, _, e⟩ e2 => ⟨_, by rw [e, e2]; exact rb_gt⟩) ha hb (nomark _)
theorem tp_eqN {N : Nat → Prop} {j : Int} (hr : Room k X.A) (ha : EP' X J env a (nI N)) (hb : DE X J env b (.int j)) : TP' X J env (.Compare a [.Eq] [b] pos) (fun _ => True) :=
  tp_cmp (op_eqD hr.units) (rb_any fun x y ⟨n, _, e⟩ e2 => ⟨decide (((n : Nat) : Int) = j), by rw [e, e2]; exact rb_eqD (.int 0 _) (.int 0 _) (by decide) (by decide) (by rw [decide_eq_true_eq, D.int.injEq])⟩) ha hb (nomark _)
end
/-! ### _law_pick -/
section
variable {P : Program} {w : World} {K : PySem.W.Frag} {mg : Str → Option Value} {base : Heap}
theorem sc_law_pick : FnScope ["_law_row", "_law_things"] ["_law_row", "_law_things"] (defScope (top 82)) := ⟨rfl, rfl, rfl, by decide +kernel, rfl, by decide +kernel, by decide +kernel⟩
theorem cal_law_pick (T : Txt K mg) (R : RowC K) : Cal P w K mg base "_law_pick" 2 ["_law_row", "_law_things"] (spT K (JR R) (fun ds : List D => [.raw (.ref R.p), .lst ds]) (fun ds => ds ≠ [] ∧ ds.length ≤ 1000) (fun ds d => d ∈ ds)) := by
  refine cal_of T.d_law_pick fun f fd F => fn_ok F sc_law_pick (fun _ => rfl) fun cdv A outer s H E a hr pre => ?_
  have ne : a ≠ [] := pre.1
  have hl : a.length ≤ 1000 := pre.2
  show DB _ _ [.d (.raw (.ref R.p)), .d (.lst a)] _ _ _
  refine db_cons (ds_ret (P := fun d => d ∈ a) (ep_ixLN (ds := a) (de_var (i := 1) rfl) (c_law_taken T (hr.mono (by decide)) a.length (de_var (i := 0) rfl) (de_len T.f_len (de_var (i := 1) rfl) (.lst _)) (List.length_pos_iff.mpr ne) hl)) (fun d h => h))
end
section
variable {X : Cx} {J : Jn} {env : List SL} {a b : Expr} {pos p : Pos} {P2 : D → Prop} {PA : List D → Prop}
theorem c_law_pick (T : Txt X.K X.mg) {R : RowC X.K} (hr : Room 2 X.A) (ha : DE X (JR R) env a (.raw (.ref R.p))) (hb : EP' X (JR R) env b (fun d => ∃ ds, d = .lst ds ∧ PA ds)) (k : ∀ ds, PA ds → ds ≠ [] ∧ ds.length ≤ 1000 ∧ ∀ x ∈ ds, P2 x) (hg : Gl X "_law_pick" := by rfl) (s0 : starEach [a, b] X.env = (false, eval a X.env) :: starEach [b] X.env := by rfl) (s1 : starEach [b] X.env = (false, eval b X.env) :: starEach [] X.env := by rfl) (hpl : (backTo pos (starEach [b] X.env)).any (·.1) = false := by rfl) :
    EP' X (JR R) env (.Call (.Name "_law_pick" p) [a, b] [] pos) P2 :=
  cal_epJ (cal_law_pick T R) hr (PA := fun l => ∃ ds, l = [.raw (.ref R.p), .lst ds] ∧ PA ds) (ap_cons ha (ap_cons hb da_nil (P2 := fun l => ∃ ds, l = [.lst ds] ∧ PA ds) (fun d ds ⟨es, e1, e2⟩ e3 => ⟨es, by rw [e1, e3], e2⟩) s1) (fun d ds e1 ⟨es, e2, e3⟩ => ⟨es, by rw [e1, e2], e3⟩) s0)
    (fun l ⟨ds, e1, e2⟩ => ⟨ds, e1, ⟨(k ds e2).1, (k ds e2).2.1⟩, fun d hd => (k ds e2).2.2 d hd⟩) hg s0 hpl
theorem c_law_pickD (T : Txt X.K X.mg) {R : RowC X.K} (hr : Room 2 X.A) {ds : List D} (ha : DE X (JR R) env a (.raw (.ref R.p))) (hb : DE X (JR R) env b (.lst ds)) (ne : ds ≠ []) (hl : ds.length ≤ 1000) (hg : Gl X "_law_pick" := by rfl) (s0 : starEach [a, b] X.env = (false, eval a X.env) :: starEach [b] X.env := by rfl) (s1 : starEach [b] X.env = (false, eval b X.env) :: starEach [] X.env := by rfl) (hpl : (backTo pos (starEach [b] X.env)).any (·.1) = false := by rfl) :
    EP' X (JR R) env (.Call (.Name "_law_pick" p) [a, b] [] pos) (fun d => d ∈ ds) :=
  c_law_pick T hr ha (PA := fun es => es = ds) (hb.imp fun d e => ⟨ds, e, rfl⟩) (fun es e => by subst e; exact ⟨ne, hl, fun x h => h⟩) hg s0 s1 hpl
end
end Sh
/-! Sr4: loops of drawn length; pop in an argument. -/
namespace Sh
open PySem PySem.Spec PyProof.Rows L2
open En (enc)
section
variable {X : Cx} {J : Jn} {env : List SL} {tg iter a b e : Expr} {body : List Stmt} {Φ : List SL → Prop} {Ψ : D → Prop} {pos p p2 : Pos} {t : Tgt} {N : Nat → Prop}
abbrev rngN (n : Nat) : List D := (List.range n).map fun i => D.int (0 + (i : Nat))
theorem ip_rangeN (hm : X.mg "range" = none) (h : EP' X J env e (nI N)) (hb : ∀ n, N n → n ≤ 1000000) (hg : Gl X "range" := by rfl) (hs : starEach [e] X.env = [(false, eval e X.env)] := by rfl) : IP' X J env tg (.Call (.Name "range" p) [e] [] pos) (fun ds => ∃ n, N n ∧ ds = rngN n) :=
  ip_range1 (Pn := fun k => ∃ n : Nat, N n ∧ k = n) hm (h.imp fun d ⟨n, hn, e⟩ => ⟨n, e, n, hn, rfl⟩) (fun k ⟨n, hn, e⟩ => by
    have := hb n hn
    subst e
    refine ⟨by omega, by omega, n, hn, ?_⟩
    unfold rng
    rw [Int.toNat_natCast]) hg hs
theorem ds_forR (hi : IP' X J env tg iter (fun ds => ∃ n, N n ∧ ds = rngN n)) (Iv : Nat → Nat → List SL → Prop) (h0 : ∀ n, N n → Iv n 0 env)
    (hstep : ∀ n, N n → ∀ i env1, i < n → Iv n i env1 → ∃ env2, TSt t (.int (0 + (i : Nat))) env1 env2 ∧ DB X J env2 body (Iv n (i + 1)) Ψ) (hd : ∀ n, N n → ∀ env', Iv n n env' → Φ env')
    (hg : PG X tg (t.g X.K)) (hp : PassesOwn (model X.prog X.w) X.A X.env X.xe) (hc : X.calm = true := by rfl) (hs : ∀ x, foldedSetIterable iter X.env x = pure x := by intro _; rfl) : DS X J env (.For tg iter body [] pos) Φ Ψ := fun G0 H0 σ H G Dn s q r => by
  refine wpS_of (ps_for (wi := wpI X tg iter) (g := t.g X.K) (tb := wpB X body) hp hc pi_wp hg pss_wp hs) ?_
  refine hi G0 H0 σ H G _ s fun T ds G1 H1 u1 it eds => ?_
  obtain ⟨n, hn, rfl⟩ := eds
  have ln : (rngN n).length = n := by rw [List.length_map, List.length_range]
  have s1 := s.ext u1
  refine ⟨fun i m σ' H' => m = n - i ∧ i ≤ n ∧ ∃ env' G', Iv n i env' ∧ StG X.K J G1 H0 env' σ' H' G', ⟨_, rfl, Nat.zero_le _, env, G1, h0 n hn, s1.rebase⟩, ?_⟩
  rintro i m σ' H' ⟨rfl, hi', env', G', iv, s'⟩
  by_cases hlt : i < n
  · right
    refine ⟨it.go i H' G' s'.up.g s'.bs (by rw [ln]; exact hlt), fun σ2 H2 => ∃ env2 G2, Iv n (i + 1) env2 ∧ StG X.K J G1 H0 env2 σ2 H2 G2, fun σ2 H2 z => ⟨_, by omega, rfl, hlt, z⟩, fun x H2 hy => ?_⟩
    obtain ⟨G2, d, u2, ed, rd⟩ := it.yld i H' G' x H2 s'.up.g s'.bs (by rw [ln]; exact hlt) hy
    rw [List.getElem?_map, List.getElem?_range hlt] at ed
    cases ed
    obtain ⟨env2, ts, hb⟩ := hstep n hn i env' hlt iv
    refine tgt_run (s'.ext u2) rd ts fun σ2 _ s2 => ?_
    exact hb G1 H0 σ2 H2 G2 _ s2 (fun env3 σ3 H3 G3 p3 s3 => ⟨env3, G3, p3, s3⟩) fun v d G3 H3 u3 i3 p3 => r v d G3 H3 (s1.unbase u3) i3 p3
  · left
    have e : i = n := by omega
    subst e
    exact ⟨it.stop _ H' G' s'.up.g s'.bs ln.symm, q env' σ' H' G' (hd _ hn env' iv) (s1.unbaseS s')⟩
/-- xs[:n], n drawn -/
theorem ep_slLN {ds : List D} (ha : DE X J env a (.lst ds)) (hb : EP' X J env b (nI N)) : EP' X J env (.Subscript a (.Slice none (some b) none p2) pos) (fun d => ∃ n, N n ∧ d = .lst (ds.take n)) := fun G0 H0 σ H G Q s q => by
  refine wp_of (pe_slice sl_list pe_wp po_none (po_some pe_wp)) ?_
  refine ha G0 H0 σ H G _ s fun v d G1 H1 u1 r p => ?_
  subst p
  refine hb G0 H0 σ H1 G1 _ (s.ext u1) fun v2 d2 G3 H3 u3 r2 p2 => ?_
  obtain ⟨n, hn, rfl⟩ := p2
  refine ⟨n, r2.int_inv, ?_⟩
  have s3 := (s.ext u1).ext u3
  have r3 := r.mono u3.g
  obtain ⟨t, xs, rfl, ht, al⟩ := r3.lst_inv
  refine ⟨t, xs, rfl, .inl (.inl (s3.bs.gh _ _ ht)), fun pn hp => ?_⟩
  have u4 := Up.new s3.bs (o := .lst (cutV xs none (some n))) hp
  refine q _ (.lst (ds.take n)) _ _ ((u1.trans u3).trans u4) ?_ ⟨n, hn, rfl⟩
  rw [← cut_take ds n]
  exact .lst upd_same ((isAll_cut al _ _).mono u4.g)
theorem de_catS {x y : Str} (ha : DE X J env a (.str x)) (hb : DE X J env b (.str y)) (hl : x.length + y.length ≤ sizeLine) : DE X J env (.BinOp a .Add b pos) (.str (x ++ y)) :=
  ep_op op_add_str (fun v u d e G H Q b r1 r2 p1 p2 q => by
    subst p1 p2
    exact ⟨x, y, r1.str_inv, r2.str_inv, hl, q _ (.str (x ++ y)) G H (Up.refl b) (.str _) rfl⟩) ha hb
def sW : Nat → W
  | 0 => .s0
  | 1 => .s1
  | _ => .s2
def bW : Nat → W
  | 0 => .b0
  | _ => .b1
def dW : Nat → W
  | 0 => .d0
  | 1 => .d1
  | _ => .d2
theorem de_sname {i : Nat} {j q q2 q3} (h : i < 3) (hm : X.mg "str" = none) (hb : DE X J env b (.int (0 + (i : Nat)))) (hg : Gl X "str" := by rfl) (he : starEach [b] X.env = (false, eval b X.env) :: starEach [] X.env := by rfl) (hpl : (backTo q (starEach [] X.env)).any (·.1) = false := by rfl) : DE X J env (.BinOp (.Constant (.str "s") j q3) .Add (.Call (.Name "str" q2) [b] [] q) pos) (enc (sW i)) := by
  match i, h with
  | 0, _ => exact de_catS (x := "s") de_str (de_str_int hm hb (by decide) hg he hpl) (by decide +kernel)
  | 1, _ => exact de_catS (x := "s") de_str (de_str_int hm hb (by decide) hg he hpl) (by decide +kernel)
  | 2, _ => exact de_catS (x := "s") de_str (de_str_int hm hb (by decide) hg he hpl) (by decide +kernel)
theorem de_bname {i : Nat} {j q q2 q3} (h : i < 2) (hm : X.mg "str" = none) (hb : DE X J env b (.int (0 + (i : Nat)))) (hg : Gl X "str" := by rfl) (he : starEach [b] X.env = (false, eval b X.env) :: starEach [] X.env := by rfl) (hpl : (backTo q (starEach [] X.env)).any (·.1) = false := by rfl) : DE X J env (.BinOp (.Constant (.str "b") j q3) .Add (.Call (.Name "str" q2) [b] [] q) pos) (enc (bW i)) := by
  match i, h with
  | 0, _ => exact de_catS (x := "b") de_str (de_str_int hm hb (by decide) hg he hpl) (by decide +kernel)
  | 1, _ => exact de_catS (x := "b") de_str (de_str_int hm hb (by decide) hg he hpl) (by decide +kernel)
theorem de_dname {i : Nat} {j q q2 q3} (h : i < 3) (hm : X.mg "str" = none) (hb : DE X J env b (.int (0 + (i : Nat)))) (hg : Gl X "str" := by rfl) (he : starEach [b] X.env = (false, eval b X.env) :: starEach [] X.env := by rfl) (hpl : (backTo q (starEach [] X.env)).any (·.1) = false := by rfl) : DE X J env (.BinOp (.Constant (.str "d") j q3) .Add (.Call (.Name "str" q2) [b] [] q) pos) (enc (dW i)) := by
  match i, h with
  | 0, _ => exact de_catS (x := "d") de_str (de_str_int hm hb (by decide) hg he hpl) (by decide +kernel)
  | 1, _ => exact de_catS (x := "d") de_str (de_str_int hm hb (by decide) hg he hpl) (by decide +kernel)
  | 2, _ => exact de_catS (x := "d") de_str (de_str_int hm hb (by decide) hg he hpl) (by decide +kernel)
end
section
variable {X : Cx} {J : Jn} {env : List SL} {e1 e2 : Expr} {Φ : List SL → Prop} {Ψ : D → Prop} {pos npos apos cpos npos2 apos2 cpos2 tpos : Pos} {P2 : D → Prop}
theorem ixN_at {n j : Nat} (h : j < n) : ixN n (j : Int) = some j := by
  unfold ixN
  rw [if_pos (by omega), if_pos (by omega), Int.toNat_natCast]
/-- own1.append((own2.pop(e1), e2)) -/
theorem ds_appPop {i j : Nat} {n1 n2 : Str} {kt} {ds es : List D} (ho1 : env[i]? = some (.own (.lst ds))) (ho2 : env[j]? = some (.own (.lst es))) (hij : j ≠ i) (h1 : EP' X J env e1 (nI fun n => n < es.length)) (h2 : ∀ n, n < es.length → EP' X J (env.set j (.own (.lst (es.eraseIdx n)))) e2 P2) (hz : ds.length < 1000) (hz2 : es.length ≤ 1000)
    (k : ∀ n x d2, es[n]? = some x → P2 d2 → Φ ((env.set j (.own (.lst (es.eraseIdx n)))).set i (.own (.lst (ds ++ [.tup [x, d2]])))))
    (hN1 : X.N[i]? = some n1 := by rfl) (hN2 : X.N[j]? = some n2 := by rfl) (hv1 : Vis X.env.scope n1 := by first | exact Or.inl rfl | exact Or.inr (Or.inl rfl) | exact Or.inr (Or.inr rfl)) (hv2 : Vis X.env.scope n2 := by first | exact Or.inl rfl | exact Or.inr (Or.inl rfl) | exact Or.inr (Or.inr rfl))
    (hd1 : (n1 == ("__debug__" : Str)) = false := by decide) (hd2 : (n2 == ("__debug__" : Str)) = false := by decide) (hcd1 : (n1 == ("__classdict__" : Str)) = false := by decide) (hcd2 : (n2 == ("__classdict__" : Str)) = false := by decide)
    (hbase : attributeBase (.Name n1 npos) "append" X.env (eval (.Name n1 npos) X.env) = eval (.Name n1 npos) X.env := by rfl) (hbase2 : attributeBase (.Name n2 npos2) "pop" X.env (eval (.Name n2 npos2) X.env) = eval (.Name n2 npos2) X.env := by rfl)
    (hfew : ((backTo cpos (starEach [.Tuple [.Call (.Attribute (.Name n2 npos2) "pop" apos2) [e1] [] cpos2, e2] kt tpos] X.env)).all (fun x => !x.1) && (backToKw cpos (keywordEach [] X.env)).all (fun x => x.1.isSome) && decide ([Expr.Tuple [.Call (.Attribute (.Name n2 npos2) "pop" apos2) [e1] [] cpos2, e2] kt tpos].length + ([] : List Keyword).length + (if ([] : List Keyword).isEmpty then 0 else 1) < 30)) = true := by rfl)
    (hfew2 : ((backTo cpos2 (starEach [e1] X.env)).all (fun x => !x.1) && (backToKw cpos2 (keywordEach [] X.env)).all (fun x => x.1.isSome) && decide ([e1].length + ([] : List Keyword).length + (if ([] : List Keyword).isEmpty then 0 else 1) < 30)) = true := by rfl)
    (hline : (apos.endLine == cpos.line) = true := by rfl) (hline2 : (apos2.endLine == cpos2.line) = true := by rfl)
    (hs : starEach [.Tuple [.Call (.Attribute (.Name n2 npos2) "pop" apos2) [e1] [] cpos2, e2] kt tpos] X.env = (false, eval (.Tuple [.Call (.Attribute (.Name n2 npos2) "pop" apos2) [e1] [] cpos2, e2] kt tpos) X.env) :: starEach [] X.env := by rfl) (hs2 : starEach [e1] X.env = (false, eval e1 X.env) :: starEach [] X.env := by rfl)
    (hs3 : starEach [.Call (.Attribute (.Name n2 npos2) "pop" apos2) [e1] [] cpos2, e2] X.env = (false, eval (.Call (.Attribute (.Name n2 npos2) "pop" apos2) [e1] [] cpos2) X.env) :: starEach [e2] X.env := by rfl) (hs4 : starEach [e2] X.env = (false, eval e2 X.env) :: starEach [] X.env := by rfl)
    (hplain : (backTo cpos (starEach [] X.env)).any (·.1) = false := by rfl) (hplain2 : (backTo cpos2 (starEach [] X.env)).any (·.1) = false := by rfl)
    (hsw : swapsWith (.Call (.Attribute (.Name n1 npos) "append" apos) [.Tuple [.Call (.Attribute (.Name n2 npos2) "pop" apos2) [e1] [] cpos2, e2] kt tpos] [] cpos) none pos.line X.env = pure false := by rfl) :
    DS X J env (.Expr (.Call (.Attribute (.Name n1 npos) "append" apos) [.Tuple [.Call (.Attribute (.Name n2 npos2) "pop" apos2) [e1] [] cpos2, e2] kt tpos] [] cpos) pos) Φ Ψ := fun G0 H0 σ H G Dn s q r => by
  refine wpS_of (ps_expr (pe_bm PySem.F.plainAttrs_list PySem.F.slot_list_append PySem.F.type_list_append mt_append (pe_var hN1 hv1 hd1 hcd1) (pa_cons (pe_tup (pa_cons (pe_bm PySem.F.plainAttrs_list PySem.F.slot_list_pop PySem.F.type_list_pop mt_popAt (pe_var hN2 hv2 hd2 hcd2) (pa_cons pe_wp pa_nil (by exact hs2)) hbase2 hfew2 hline2 hs2 hplain2) (pa_cons pe_wp pa_nil (by exact hs4)) (by exact hs3))) pa_nil (by exact hs)) hbase hfew hline hs hplain) hsw) ?_
  obtain ⟨p, as, e2, ⟨ea, vs, hp, al⟩, _⟩ := s.ownAt ho1
  refine ⟨.ref p, e2, .inl ⟨rfl, vs, .inl (.inl hp)⟩, ?_⟩
  obtain ⟨p2, as2, e22, ⟨ea2, vs2, hp2, al2⟩, _⟩ := s.ownAt ho2
  refine ⟨.ref p2, e22, .inl ⟨rfl, vs2, .inl (.inl hp2)⟩, ?_⟩
  refine h1 G0 H0 σ H G _ s fun v d G1 H1 u i1 pd => ?_
  obtain ⟨n, hn, rfl⟩ := pd
  have s1 := s.ext u
  obtain ⟨p2', as2', e2', ⟨ea2', vs2', hp2', al2'⟩, mu⟩ := s1.ownAt ho2
  rw [e22] at e2'
  cases e2'
  have hx : es[n]? = some es[n] := List.getElem?_eq_getElem hn
  obtain ⟨y, hy, ry⟩ := al2'.get (i := n) hx
  refine ⟨p2, vs2', (n : Int), n, y, rfl, by rw [i1.int_inv], hp2', by omega, by omega, (ixN_seq (ixN_at (by rw [al2'.len]; exact hn))).1, hy, ?_⟩
  have s2 := mu _ (.lst (es.eraseIdx n)) ⟨ea2', vs2'.eraseIdx n, upd_same, al2'.eraseIdx n⟩
  refine h2 n hn G0 H0 σ _ G1 _ s2 fun v2 d2 G3 H3 u3 i3 pd2 => ?_
  refine ⟨show 2 ≤ sizeLine by decide, fun t ht => ?_⟩
  have s3 := s2.ext u3
  have u4 := Up.new s3.bs (o := .tup [y, v2]) ht
  have s4 := s3.ext u4
  obtain ⟨p', as', e', ⟨ea', vs', hp', al'⟩, mu'⟩ := s4.ownAt (i := i) (w := .lst ds) (by rw [List.getElem?_set_ne hij]; exact ho1)
  rw [e2] at e'
  cases e'
  refine ⟨p, vs', .ref t, rfl, rfl, hp', by rw [al'.len]; exact small (Nat.le_of_lt hz), ?_⟩
  exact q _ _ _ _ (k n _ d2 hx pd2) (mu' _ _ ⟨ea', vs' ++ [.ref t], upd_same, al'.append (.cons (.tup (.inl (.inl upd_same)) (.cons ((ry.mono u3.g).mono u4.g) (.cons (i3.mono u4.g) .nil))) .nil)⟩)
end
end Sh
/-! Sr5: a new list made out of own things. -/
namespace Sh
open PySem PySem.Spec PyProof.Rows L2
open En (enc)
section
variable {K : PySem.W.Frag} {J : Jn} {G0 H0 G H G1 H1 Gf : Hp} {env : List SL} {σ : L2.St} {O : Addr → Prop}
open Classical in
theorem Fz.backN (z : Fz K J G0 H0 env σ H G O Gf) (u : Up J Gf H G1 H1) : ∃ G2, Up J G H G2 H1 ∧ (∀ a, G1 a = none → G2 a = none) ∧ ∀ v d, TupO d → Is K G1 v d → Is K G2 v d := by
  have off : ∀ a, O a → G1 a = H a := fun a ha => by
    obtain ⟨o, e, _⟩ := z.lk a ha
    rw [e]
    exact u.g a o ((z.ino a ha).trans e)
  refine ⟨fun a => if O a then none else G1 a, ⟨fun a o e => ?_, fun a o e => ?_, u.h, u.fr, fun a n n2 => ?_, u.inv⟩, fun a e => ?_, ?_⟩
  · have ha : ¬ O a := fun y => by rw [z.nog a y] at e; cases e
    show (if O a then none else G1 a) = some o
    rw [if_neg ha]
    exact u.g a o (z.gg a o e)
  · have e' : (if O a then none else G1 a) = some o := e
    by_cases ha : O a
    · rw [if_pos ha] at e'; cases e'
    · rw [if_neg ha] at e'; exact u.gh a o e'
  · show (if O a then none else G1 a) = none
    by_cases ha : O a
    · rw [if_pos ha]
    · rw [if_neg ha]
      exact u.hid a (by rw [z.out a ha]; exact n) n2
  · show (if O a then none else G1 a) = none
    by_cases ha : O a
    · rw [if_pos ha]
    · rw [if_neg ha, e]
  · have key : ∀ a xs, SqT K G1 a xs → SqT K (fun a => if O a then none else G1 a) a xs := fun a xs h => by
      have no : ∀ o, G1 a = some o → (¬ Lk o) → ¬ O a := fun o e l y => by
        obtain ⟨o', e', l'⟩ := z.lk a y
        rw [off a y, e'] at e
        cases e
        exact l l'
      rcases h with (h | ⟨o, h⟩) | h
      · refine .inl (.inl ?_)
        show (if O a then none else G1 a) = _
        rw [if_neg (no _ h fun l => l.1 _ rfl)]; exact h
      · refine .inl (.inr ⟨o, ?_⟩)
        show (if O a then none else G1 a) = _
        rw [if_neg (no _ h fun l => l.2 _ _ rfl)]; exact h
      · exact .inr h
    intro v d t h
    have both : (∀ d, TupO d → ∀ v, Is K G1 v d → Is K (fun a => if O a then none else G1 a) v d) := by
      intro d t
      refine TupO.rec (motive_1 := fun d _ => ∀ v, Is K G1 v d → Is K (fun a => if O a then none else G1 a) v d) (motive_2 := fun ds _ => ∀ vs, IsAll K G1 vs ds → IsAll K (fun a => if O a then none else G1 a) vs ds) ?_ ?_ ?_ ?_ ?_ ?_ ?_ ?_ t
      · intro v h; cases h; exact .non
      · intro b v h; cases h; exact .bl b
      · intro b v h; cases h; exact .int b
      · intro b v h; cases h; exact .str b
      · intro b v h; cases h; exact .raw b
      · intro ds _ ih v h
        cases h with
        | tup h a => exact .tup (key _ _ h) (ih _ a)
      · intro vs h; cases h; exact .nil
      · intro d ds _ _ i1 i2 vs h
        cases h with
        | cons r t => exact .cons (i1 _ r) (i2 _ t)
    exact both d t v h
theorem isAll_of {G1 G2 : Hp} (k : ∀ v d, TupO d → Is K G1 v d → Is K G2 v d) : ∀ {ds : List D} {vs : List V}, TupAll ds → IsAll K G1 vs ds → IsAll K G2 vs ds
  | _, _, .nil, .nil => .nil
  | _, _, .cons t ts, .cons r rs => .cons (k _ _ t r) (isAll_of k ts rs)
end
section
variable {X : Cx} {J : Jn} {env : List SL} {e : Expr} {P : List D → Prop}
theorem fe_cold (h : FE' X J (env.map frz) e P) (t : ∀ ds, P ds → TupAll ds) : FE' X J env e P := fun G0 H0 σ H G Q s q => by
  obtain ⟨O, Gf, z⟩ := s.freeze
  refine h G0 H0 σ H Gf Q z.st fun p vs ds G1 H1 u hp hg h1 al pd => ?_
  obtain ⟨G2, u2, k1, k⟩ := z.backN u
  exact q p vs ds G2 H1 u2 hp (k1 p hg) h1 (isAll_of k (t ds pd) al) pd
end
end Sh
/-! Sh21: plain tuples, dicts of pairs, values of own dicts. -/
namespace Sh
open PySem PySem.Spec PyProof.Rows L2
open En (enc)
section
variable {X : Cx}
/-- tuple(list): the new one is plain -/
theorem call_tuple_plain : CallR X (.type "tuple") (fun xs H Q => ∃ p ys, xs = [.ref p] ∧ SqL X.K H p ys ∧ ∀ (l : Addr) (o : Obj), H l = none → o.dict = none → Q (.ref l) (upd H l (.frz o (.tup ys)))) := by
  intro pins s σ H xs us Q I r h
  obtain ⟨p, ys, rfl, hq, q⟩ := h
  obtain ⟨u, rfl, rx⟩ := vals1 r
  cases rx
  obtain ⟨its, r', pl, hz⟩ := I.list hq
  have hlen := r'.length
  refine call_tuple_list pl.isList (fun h' kp => ?_) (by simp only [List.size_toArray] <;> omega)
  have I1 : Inv X pins σ H { s with heap := h' } := I.kept (t' := s.toks) kp
  have I2 : Inv X pins σ (upd H h'.objs.size (.frz { cls := .type "tuple", data := .seq its.toArray } (.tup ys))) { s with heap := h'.push { cls := .type "tuple", data := .seq its.toArray } } :=
    I1.laid (t' := s.toks) (fun b o e => Heap.get?_push_of_some _ e) (Nat.le_refl _) (show ObjOk X.prog X.w _ _ _ (.frz _ (.tup ys)) from ⟨Heap.get?_push_size _ rfl, hz, its, r', IsTup.new _ _⟩)
  exact ⟨.ref h'.objs.size, _, I2, rfl, q _ _ (I1.hok.fresh (Nat.le_refl _)) rfl⟩
/-- dict(t), t a plain tuple of pairs -/
theorem call_dictT (hcalm : X.calm = true) : CallR X (.type "dict") (fun xs H Q => ∃ (a : Addr) (o : Obj) (ps : List Addr) (kvs : List (Key × V)), xs = [.ref a] ∧ H a = some (.frz o (.tup (ps.map V.ref))) ∧ o.dict = none ∧ Paired (fun p kv => SqT X.K H p [kV kv.1, kv.2]) ps kvs ∧
    ∀ p, H p = none → Q (.ref p) (upd H p (.dK (mergeK [] kvs)))) := by
  intro pins s σ H xs us Q I r q
  obtain ⟨a, o, ps, kvs, ex, hq, od, hp, q⟩ := q
  subst ex
  obtain ⟨u, eu, rx⟩ := vals1 r
  subst eu
  cases rx
  obtain ⟨ho, hz, its, rv, o2, ho2, hc, n, hd⟩ := (show ObjOk X.prog X.w H s.heap a (.frz o (.tup (ps.map V.ref))) from I.hok a _ hq)
  rw [ho] at ho2
  cases ho2
  have ei := refs_at rv
  subst ei
  rw [List.length_map] at hz
  obtain ⟨prs, rel, hl, hpr⟩ := pairs_of I hp
  have hsz : ps.length ≤ sizeLine := hz
  -- the pairs as values
  have ex : ∀ (prs : List (Key × Value)) (ps : List Addr), prs.length = ps.length → (∀ (j : Nat) (q : Key × Value), prs[j]? = some q → ∃ (b : Addr) (u : Value), ps[j]? = some b ∧ IsTup s.heap b #[u, q.2] ∧ keyIs q.1 u = true) →
      ∃ vs : List (Value × Value), vs.length = ps.length ∧ ∀ (j : Nat) k v, vs[j]? = some (k, v) → ∃ q b, prs[j]? = some q ∧ ps[j]? = some b ∧ IsTup s.heap b #[k, v] ∧ keyIs q.1 k = true ∧ q.2 = v := by
    intro prs
    induction prs with
    | nil =>
      intro ps e _
      cases ps with
      | nil => exact ⟨[], rfl, fun j k v z => by simp at z⟩
      | cons _ _ => cases e
    | cons q prs ih =>
      intro ps e hh
      cases ps with
      | nil => cases e
      | cons b ps =>
        obtain ⟨b', u, e1, e2, e3⟩ := hh 0 q rfl
        have eb : b = b' := Option.some.inj e1
        subst eb
        obtain ⟨vs, l, hv⟩ := ih ps (by simpa using e) fun j q' z => by
          obtain ⟨b2, u2, z1, z2, z3⟩ := hh (j + 1) q' (by simpa using z)
          exact ⟨b2, u2, by simpa using z1, z2, z3⟩
        refine ⟨(u, q.2) :: vs, by rw [List.length_cons, List.length_cons, l], fun j k v z => ?_⟩
        cases j with
        | zero =>
          have z' : (u, q.2) = (k, v) := Option.some.inj z
          cases z'
          exact ⟨q, b, rfl, rfl, e2, e3, rfl⟩
        | succ j =>
          obtain ⟨q2, b2, z1, z2, z3⟩ := hv j k v (by simpa using z)
          exact ⟨q2, b2, by simpa using z1, by simpa using z2, z3⟩
  obtain ⟨vs, lv, hv⟩ := ex prs ps hl hpr
  refine PySem.call_dict_pairs (knd := mixKind X.prog X.w) (kvs := prs) (PairArg.tuple (prog := X.prog) (w := X.w) a (ps.map Value.ref).toArray (fun j => ps.getD j 0) vs) (I.ok.hd hcalm) ⟨⟨o, n, ho, hc, od, hd⟩, by simp [lv], fun j k v e => ?_⟩ ⟨by rw [hl, lv], fun i k v e => ?_⟩ (by rw [lv]; exact hsz) fun h' tk hd' k => ?_
  · obtain ⟨q2, b2, z1, z2, z3, _⟩ := hv j k v e
    have e0 : ps.getD j 0 = b2 := by rw [List.getD_eq_getElem?_getD, z2]; rfl
    refine ⟨by simp [z2, e0], .inl ?_⟩
    show s.heap.IsTuple (ps.getD j 0) #[k, v]
    rw [e0]
    exact z3
  · obtain ⟨q2, b2, z1, z2, z3, z4, z5⟩ := hv i k v e
    exact ⟨q2.1, by rw [z1, ← z5], z4⟩
  · have hm : (s.heap.objs.size == sysModules) = false := beq_eq_false_iff_ne.mpr (Nat.ne_of_gt I.big)
    have hlen : (mergeK [] kvs).length ≤ sizeLine := by
      refine Nat.le_trans (length_mergeK kvs []) ?_
      rw [List.length_nil, Nat.zero_add, rel.length, hl]
      exact hsz
    exact ⟨.ref s.heap.objs.size, upd H s.heap.objs.size (.dK (mergeK [] kvs)), I.laid (t' := tk) (fun b o e => k b o (fun z => by cases z) e) (Nat.le_refl _) (show ObjOk X.prog X.w _ _ _ (.dK (mergeK [] kvs)) from ⟨hlen, hm, merged [] prs, KV.merge rel .nil, hd'⟩), rfl, q _ (I.hok.fresh (Nat.le_refl _))⟩
end
/-- list(o.values()) -/
def tListVals (td : TE) : TE := fun σ H Q => td σ H fun x H1 => ∃ a kvs, x = V.ref a ∧ Rd H1 a (.dK kvs) ∧ ∀ l, H1 l = none → Q (.ref l) (upd H1 l (.lst (kvs.map (·.2))))
theorem kv_vals : ∀ {kvs : List (Key × V)} {vs : List (Key × Value)}, KV kvs vs → Vals (kvs.map (·.2)) (vs.map (·.2)) := by
  intro kvs vs r
  unfold KV at r
  induction r with
  | nil => exact .nil
  | cons r t ih => exact .cons r.2 ih
section
variable {X : Cx} {o : Expr} {p pos apos mpos : Pos} {td : TE}
theorem pe_listVals (hc : X.calm = true) (hg : Gl X "list") (hm : X.mg "list" = none) (hd : PE X o td) (hbase : attributeBase o "values" X.env (eval o X.env) = eval o X.env := by rfl) (hline : (apos.endLine == mpos.line) = true := by rfl)
    (hse : starEach [Expr.Call (.Attribute o "values" apos) [] [] mpos] X.env = [(false, eval (Expr.Call (.Attribute o "values" apos) [] [] mpos) X.env)] := by rfl) :
    PE X (.Call (.Name "list" p) [.Call (.Attribute o "values" apos) [] [] mpos] [] pos) (tListVals td) := by
  refine ⟨fun pins s σ H Q I h => ?_⟩
  refine wpAny_Call_Name_kw (ld_blt I hg hm (u := .type "list") (by first | rfl | decide +kernel) ?_ (by first | decide +kernel | decide) (by first | decide +kernel | decide))
  rw [hse]
  refine PyProof.Rows.callWith_type (T := "list") (first := []) rfl (Calls.evalArgs_plain (Calls.spliced_cons ?_))
  refine wpAny_mono (Q := fun v s₁ => wpAny (model X.prog X.w) X.A (call (.type "list") [v]) _ _ s₁) (wpAny_Call_method0_late hbase hline (thn (hd.run pins s σ H _ I h) fun v s1 ⟨x, H1, I1, r1, a, kvs, ex, ha, q⟩ => ?_)) (fun _ _ h₁ => Calls.spliced_nil h₁) (fun _ _ e => e)
  subst ex
  obtain rfl : v = Value.ref a := r1
  obtain ⟨hz, hsys, vs, rel, dof⟩ := dk_rd I1.hok ha
  obtain ⟨ep, dat⟩ := dof.dictAt
  have dat' := dat
  obtain ⟨ob, es, ho, ex, hdat, hko, hpr, hnd⟩ := dat'
  refine ⟨"dict", "dict.values", F.plainAttrs_dict, F.slot_dict_values, F.type_dict_values, ⟨ob, ho, ex.1⟩, fun b e => ?_, Calls.callWith_builtin rfl (PySem.evalArgs_none ?_)⟩
  · cases e
    exact ⟨ob, ho, ex.2.1⟩
  refine call_meetsIn F.slot_dict_values ⟨ob, ho, ex.1⟩ F.entry_dict_values (F.args_dict_values_1 _) (meets_dict_values (mixKind X.prog X.w) a hsys) ⟨⟨vs, dof⟩, ?_⟩
  have k1 : ∀ b u, s1.heap.get? b = some u → (s1.heap.push { cls := .type "dict_values", data := .fields #[.ref a] }).get? b = some u := fun b u e => Heap.get?_push_of_some _ e
  have dat1 : (s1.heap.push { cls := .type "dict_values", data := .fields #[.ref a] }).DictAt (mixKind X.prog X.w) a vs ep := dat.keep k1
  have I2 : Inv X pins σ H1 { s1 with heap := s1.heap.push { cls := .type "dict_values", data := .fields #[.ref a] } } := I1.kept (t' := s1.toks) k1
  have hlv : vs.length ≤ sizeLine := by rw [← KV.length rel]; exact hz
  refine PySem.W.kdl_call (PySem.W.kdl_values (knd := mixKind X.prog X.w) (r := s1.heap.objs.size) (d := a) (kvs := vs) (ep := ep)) (I.ok.hd hc) ⟨⟨_, Heap.get?_push_size _ rfl, rfl, rfl⟩, dat1⟩ hlv fun h' tk acc' c' hk hD hacc => ?_
  have ea : acc'.toList = vs.map (·.2) := PySem.W.kdl_vals_eq _ (by rw [Array.length_toList]; exact hacc.1) fun j v e => hacc.2 j v (by rw [← Array.getElem?_toList]; exact e)
  refine ⟨.ref _, upd H1 _ (.lst (kvs.map (·.2))), I2.laid (t' := tk) hk (Nat.le_refl _) (show ObjOk X.prog X.w _ _ _ (.lst _) from ⟨by rw [List.length_map]; exact hz, vs.map (·.2), c', kv_vals rel, ?_⟩), rfl, q _ (I2.hok.fresh (Nat.le_refl _))⟩
  rw [hD, ← ea]
end

/-! ### in the data layer -/
section
variable {X : Cx} {J : Jn} {env : List SL} {a e kx value : Expr} {es : List Expr} {pos p apos mpos npos spos : Pos} {Φ : List SL → Prop} {Ψ : D → Prop} {P : D → Prop}
theorem de_weak {ds : List D} (h : DE X J env e (.ptup ds)) : DE X J env e (.tup ds) := fun G0 H0 σ H G Q s q => h G0 H0 σ H G Q s fun v d G1 H1 u r ed => by
  subst ed
  exact q v (.tup ds) G1 H1 u r.weak rfl
theorem de_ptuple {ds : List D} (hm : X.mg "tuple" = none) (ha : DE X J env a (.lst ds)) (hg : Gl X "tuple" := by rfl) (he : starEach [a] X.env = (false, eval a X.env) :: starEach [] X.env := by rfl) (hpl : (backTo pos (starEach [] X.env)).any (·.1) = false := by rfl) : DE X J env (.Call (.Name "tuple" p) [a] [] pos) (.ptup ds) := by
  refine ep_callTy (PA := fun l => l = [.lst ds]) call_tuple_plain hm (by decide +kernel) (da_cons ha da_nil he) (fun vs ds' G H Q b al pa q => ?_) hg (by decide) (by decide) he hpl
  subst pa
  obtain ⟨v, rfl, r⟩ := isAll1 al
  obtain ⟨t, xs, rfl, h, al2⟩ := r.lst_inv
  refine ⟨t, xs, rfl, .inl (.inl (b.gh _ _ h)), fun l o hl od => ?_⟩
  have u := Up.new b (o := .frz o (.tup xs)) hl
  exact q _ (.ptup ds) _ _ u (.ptup upd_same od (al2.mono u.g)) rfl
/-- pairs of a name and a thing -/
def prD (q : W × D) : D := .tup [enc q.1, q.2]
theorem prs_paired {K : PySem.W.Frag} {G H : Hp} (gh : Same G H) : ∀ {kvs : List (W × D)} {vs : List V}, IsAll K G vs (kvs.map prD) → ∃ (ps : List Addr) (zs : List (Key × V)), vs = ps.map V.ref ∧ Paired (fun p kv => SqT K H p [kV kv.1, kv.2]) ps zs ∧ IsKV K G zs (wd kvs)
  | [], _, .nil => ⟨[], [], rfl, .nil, .nil⟩
  | (w, d) :: kvs, _, .cons r t => by
    obtain ⟨ps, zs, e, h1, h2⟩ := prs_paired gh t
    obtain ⟨b, xs, rfl, hb, al⟩ := Is.tup_inv r
    obtain ⟨v1, v2, rfl, r1, r2⟩ := isAll2 al
    have e1 : v1 = kV (kW w) := Is.str_inv r1
    subst e1
    exact ⟨b :: ps, (kW w, v2) :: zs, by rw [e]; rfl, .cons (sqT_same gh hb) h1, .cons r2 h2⟩
theorem mergeK_kv {K : PySem.W.Frag} {G : Hp} {kvs : List (W × D)} {vs : List (Key × V)} (h : IsKV K G vs (wd kvs)) (nd : (kvs.map (·.1)).Nodup) : IsKV K G (mergeK [] vs) (wd kvs) := by
  have z := isKV_merge (acc := []) h (.nil : IsKV K G [] (wd []))
  have e : mergeW ([] : List (W × D)) kvs = kvs := by
    unfold mergeW
    rw [foldl_putW kvs [] (by simpa using nd)]
    rfl
  rwa [e] at z
theorem se_dictL {kvs : List (W × D)} (hm : X.mg "dict" = none) (ha : DE X J env a (.lst (kvs.map prD))) (nd : (kvs.map (·.1)).Nodup) (hc : X.calm = true := by rfl) (hg : Gl X "dict" := by rfl) (he : starEach [a] X.env = (false, eval a X.env) :: starEach [] X.env := by rfl) (hpl : (backTo pos (starEach [] X.env)).any (·.1) = false := by rfl) : DSE X J env (.Call (.Name "dict" p) [a] [] pos) (.own (.dct (wd kvs))) := fun G0 H0 σ H G Q s q => by
  refine wp_of (pe_callTy (call_dictP hc) hg hm (by decide +kernel) (pa_cons pe_wp pa_nil (by exact he)) (by decide) (by decide) he hpl) ?_
  refine ha G0 H0 σ H G _ s fun v d' G1 H1 u r p => ?_
  subst p
  have s1 := s.ext u
  obtain ⟨t, xs, rfl, h, al⟩ := r.lst_inv
  obtain ⟨ps, zs, rfl, h1, h2⟩ := prs_paired s1.bs.gh al
  refine ⟨t, ps, zs, rfl, .inl (.inl (u.gh _ _ h)), h1, fun l hl => ?_⟩
  exact q (.ref l) (.own (.dct (wd kvs))) [l] G1 _ (u.trans (Up.newH s1.bs hl)) ⟨l, rfl, rfl, _, upd_same, mergeK_kv h2 nd⟩ (fun z hz => by rw [List.mem_singleton.mp hz]; exact ⟨up_hid u hl, s1.bs.gh.free hl⟩) rfl
theorem se_dictT {kvs : List (W × D)} (hm : X.mg "dict" = none) (ha : DE X J env a (.ptup (kvs.map prD))) (nd : (kvs.map (·.1)).Nodup) (hc : X.calm = true := by rfl) (hg : Gl X "dict" := by rfl) (he : starEach [a] X.env = (false, eval a X.env) :: starEach [] X.env := by rfl) (hpl : (backTo pos (starEach [] X.env)).any (·.1) = false := by rfl) : DSE X J env (.Call (.Name "dict" p) [a] [] pos) (.own (.dct (wd kvs))) := fun G0 H0 σ H G Q s q => by
  refine wp_of (pe_callTy (call_dictT hc) hg hm (by decide +kernel) (pa_cons pe_wp pa_nil (by exact he)) (by decide) (by decide) he hpl) ?_
  refine ha G0 H0 σ H G _ s fun v d' G1 H1 u r p => ?_
  subst p
  have s1 := s.ext u
  obtain ⟨t, xs, o, rfl, h, od, al⟩ := r.ptup_inv
  obtain ⟨ps, zs, rfl, h1, h2⟩ := prs_paired s1.bs.gh al
  refine ⟨t, o, ps, zs, rfl, u.gh _ _ h, od, h1, fun l hl => ?_⟩
  exact q (.ref l) (.own (.dct (wd kvs))) [l] G1 _ (u.trans (Up.newH s1.bs hl)) ⟨l, rfl, rfl, _, upd_same, mergeK_kv h2 nd⟩ (fun z hz => by rw [List.mem_singleton.mp hz]; exact ⟨up_hid u hl, s1.bs.gh.free hl⟩) rfl
/-- .. as data -/
theorem de_dictL {kvs : List (W × D)} (hm : X.mg "dict" = none) (ha : DE X J env a (.lst (kvs.map prD))) (nd : (kvs.map (·.1)).Nodup) (hc : X.calm = true := by rfl) (hg : Gl X "dict" := by rfl) (he : starEach [a] X.env = (false, eval a X.env) :: starEach [] X.env := by rfl) (hpl : (backTo pos (starEach [] X.env)).any (·.1) = false := by rfl) : DE X J env (.Call (.Name "dict" p) [a] [] pos) (.dct (wd kvs)) := fun G0 H0 σ H G Q s q => by
  refine wp_of (pe_callTy (call_dictP hc) hg hm (by decide +kernel) (pa_cons pe_wp pa_nil (by exact he)) (by decide) (by decide) he hpl) ?_
  refine ha G0 H0 σ H G _ s fun v d' G1 H1 u r p => ?_
  subst p
  have s1 := s.ext u
  obtain ⟨t, xs, rfl, h, al⟩ := r.lst_inv
  obtain ⟨ps, zs, rfl, h1, h2⟩ := prs_paired s1.bs.gh al
  refine ⟨t, ps, zs, rfl, .inl (.inl (u.gh _ _ h)), h1, fun l hl => ?_⟩
  have u2 := Up.new s1.bs (o := .dK (mergeK [] zs)) hl
  exact q (.ref l) (.dct (wd kvs)) _ _ (u.trans u2) (.dct (.inl upd_same) ((mergeK_kv h2 nd).mono u2.g)) rfl
theorem isKV_vals {K : PySem.W.Frag} {G : Hp} : ∀ {kvs : List (Key × D)} {vs : List (Key × V)}, IsKV K G vs kvs → IsAll K G (vs.map (·.2)) (kvs.map (·.2))
  | _, _, .nil => .nil
  | _, _, .cons r t => .cons r (isKV_vals t)
/-- list(d.values()), d data -/
theorem df_listVals {kvs : List (W × D)} (hm : X.mg "list" = none) (ha : DE X J env a (.dct (wd kvs))) (hc : X.calm = true := by rfl) (hg : Gl X "list" := by rfl) (hbase : attributeBase a "values" X.env (eval a X.env) = eval a X.env := by rfl) (hline : (apos.endLine == mpos.line) = true := by rfl)
    (hse : starEach [Expr.Call (.Attribute a "values" apos) [] [] mpos] X.env = [(false, eval (Expr.Call (.Attribute a "values" apos) [] [] mpos) X.env)] := by rfl) : DF X J env (.Call (.Name "list" p) [.Call (.Attribute a "values" apos) [] [] mpos] [] pos) (kvs.map (·.2)) := fun G0 H0 σ H G Q s q => by
  refine wp_of (pe_listVals hc hg hm pe_wp hbase hline hse) ?_
  refine ha G0 H0 σ H G _ s fun v d' G1 H1 u r p => ?_
  subst p
  have s1 := s.ext u
  obtain ⟨t, vs, rfl, h, al⟩ := r.dct_inv
  refine ⟨t, vs, rfl, rd_same s1.bs.gh h, fun l hl => ?_⟩
  have z := isKV_vals al
  have e : (wd kvs).map (·.2) = kvs.map (·.2) := by unfold wd; rw [List.map_map]; rfl
  rw [e] at z
  exact q l _ _ G1 _ (u.trans (Up.newH s1.bs hl)) (up_hid u hl) (s1.bs.gh.free hl) upd_same z rfl
/-- own[k] = e -/
theorem ds_dput {i k0 : Nat} {n : Str} {kvs : List (W × D)} {w : W} (hr : Room k0 X.A) (ho : env[i]? = some (.own (.dct (wd kvs)))) (hv : EP' X J env value P) (hk : DE X J env kx (enc w)) (hz : kvs.length < 1000) (k : ∀ d, P d → Φ (env.set i (.own (.dct (wd (putW kvs w d)))))) (hN : X.N[i]? = some n := by rfl) (hvi : Vis X.env.scope n := by first | exact Or.inl rfl | exact Or.inr (Or.inl rfl) | exact Or.inr (Or.inr rfl))
    (hd : (n == ("__debug__" : Str)) = false := by decide) (hcd : (n == ("__classdict__" : Str)) = false := by decide) (hs : swapsWith value (some (.Subscript (.Name n npos) kx spos)) pos.line X.env = pure false := by rfl) :
    DS X J env (.Assign [.Subscript (.Name n npos) kx spos] value pos) Φ Ψ := fun G0 H0 σ H G Dn s q r => by
  refine wpS_of (ps_dput (hu_of hr) (pe_var hN hvi hd hcd) pe_wp pe_wp hs) ?_
  refine hv G0 H0 σ H G _ s fun v d G1 H1 u i1 pd => ?_
  have s1 := s.ext u
  obtain ⟨p, as, e2, ⟨ea, vs, hp, al⟩, _⟩ := s1.ownAt ho
  refine ⟨.ref p, e2, ?_⟩
  refine hk G0 H0 σ H1 G1 _ s1 fun v2 d2 G2 H2 u2 r2 p2 => ?_
  subst p2
  have s2 := s1.ext u2
  obtain ⟨p', as', e2', ⟨ea', vs', hp', al'⟩, mu⟩ := s2.ownAt ho
  rw [e2] at e2'
  cases e2'
  have e3 : v2 = kV (kW w) := r2.str_inv
  subst e3
  have ll : vs'.length = kvs.length := by rw [isKV_len al', wd_len]
  exact ⟨p, _, rfl, DPut.k hp' (small (by rw [ll]; exact Nat.le_of_lt hz)), q _ _ _ _ (k d pd) (mu _ _ ⟨ea', _, upd_same, isKV_put (i1.mono u2.g) al'⟩)⟩
end
end Sh
/-! B1: _law_deals. -/
namespace Sh
open PySem PySem.Spec PyProof.Rows L2
open En (enc)
def SupsOk (i : Nat) (xs : List Sup) : Prop := xs.map (·.1) = (List.range i).map sW ∧ ∀ s ∈ xs, s.2.1 ∈ [W.east, .west] ∧ 0 ≤ s.2.2 ∧ s.2.2 ≤ 3
def BuysOk (i : Nat) (xs : List Buy) : Prop := xs.map (·.1) = (List.range i).map bW ∧ ∀ b ∈ xs, 0 ≤ b.2 ∧ b.2 ≤ 7
def PartsOk (ss : List Sup) (ps : List Prt) (ns : List W) : Prop := (ps.map (·.1) ++ ns).Nodup ∧ (∀ x ∈ ps.map (·.1) ++ ns, x ∈ ss.map (·.1)) ∧ ∀ p ∈ ps, 1 ≤ p.2 ∧ p.2 ≤ 2
def DealOk (ss : List Sup) (bs : List Buy) (d : Deal) : Prop := d.2.1 ∈ bs.map (·.1) ∧ PartsOk ss d.2.2.1 [] ∧ d.2.2.1 ≠ [] ∧ d.2.2.1.length ≤ 3 ∧ 0 ≤ d.2.2.2 ∧ d.2.2.2 ≤ 5
def DealsOk (ss : List Sup) (bs : List Buy) (i : Nat) (ds : List Deal) : Prop := ds.map (·.1) = (List.range i).map dW ∧ ∀ d ∈ ds, DealOk ss bs d
def Drawn (S : Setup) : Prop := (∃ i, 1 ≤ i ∧ i ≤ 3 ∧ SupsOk i S.1) ∧ (∃ i, 1 ≤ i ∧ i ≤ 2 ∧ BuysOk i S.2.2) ∧ ∃ i, i ≤ 3 ∧ DealsOk S.1 S.2.2 i S.2.1
theorem len_of_map {α β γ : Type} {xs : List α} {f : α → β} {g : Nat → β} {i : Nat} (h : xs.map f = (List.range i).map g) : xs.length = i := by
  have := congrArg List.length h
  rwa [List.length_map, List.length_map, List.length_range] at this
theorem SupsOk.len {i : Nat} {xs : List Sup} (h : SupsOk i xs) : xs.length = i := len_of_map (γ := Nat) h.1
theorem BuysOk.len {i : Nat} {xs : List Buy} (h : BuysOk i xs) : xs.length = i := len_of_map (γ := Nat) h.1
theorem DealsOk.len {ss : List Sup} {bs : List Buy} {i : Nat} {xs : List Deal} (h : DealsOk ss bs i xs) : xs.length = i := len_of_map (γ := Nat) h.1
theorem range_snoc {β : Type} {xs : List β} {x : β} {g : Nat → β} {i : Nat} (h : xs = (List.range i).map g) (e : x = g i) : xs ++ [x] = (List.range (i + 1)).map g := by
  rw [List.range_succ, List.map_append, h, e]; rfl
theorem SupsOk.snoc {i : Nat} {xs : List Sup} (h : SupsOk i xs) {s : Sup} (e : s.1 = sW i) (h1 : s.2.1 ∈ [W.east, .west]) (h2 : 0 ≤ s.2.2) (h3 : s.2.2 ≤ 3) : SupsOk (i + 1) (xs ++ [s]) :=
  ⟨by rw [List.map_append]; exact range_snoc h.1 e, fun t ht => by
    rcases List.mem_append.mp ht with z | z
    · exact h.2 t z
    · rw [List.mem_singleton.mp z]; exact ⟨h1, h2, h3⟩⟩
theorem BuysOk.snoc {i : Nat} {xs : List Buy} (h : BuysOk i xs) {s : Buy} (e : s.1 = bW i) (h2 : 0 ≤ s.2) (h3 : s.2 ≤ 7) : BuysOk (i + 1) (xs ++ [s]) :=
  ⟨by rw [List.map_append]; exact range_snoc h.1 e, fun t ht => by
    rcases List.mem_append.mp ht with z | z
    · exact h.2 t z
    · rw [List.mem_singleton.mp z]; exact ⟨h2, h3⟩⟩
theorem DealsOk.snoc {ss : List Sup} {bs : List Buy} {i : Nat} {xs : List Deal} (h : DealsOk ss bs i xs) {s : Deal} (e : s.1 = dW i) (h2 : DealOk ss bs s) : DealsOk ss bs (i + 1) (xs ++ [s]) :=
  ⟨by rw [List.map_append]; exact range_snoc h.1 e, fun t ht => by
    rcases List.mem_append.mp ht with z | z
    · exact h.2 t z
    · rw [List.mem_singleton.mp z]; exact h2⟩
theorem map_erase {α β : Type} (f : α → β) : ∀ (xs : List α) (n : Nat), (xs.map f).eraseIdx n = (xs.eraseIdx n).map f
  | [], _ => rfl
  | _ :: _, 0 => rfl
  | x :: xs, n + 1 => by
    show f x :: (xs.map f).eraseIdx n = f x :: (xs.eraseIdx n).map f
    rw [map_erase f xs n]
theorem erase_perm {α : Type} : ∀ (l : List α) (n : Nat) (h : n < l.length), (l[n] :: l.eraseIdx n).Perm l
  | [], _, h => absurd h (Nat.not_lt_zero _)
  | _ :: _, 0, _ => List.Perm.refl _
  | x :: l, n + 1, h => (List.Perm.swap x _ _).trans ((erase_perm l n (Nat.lt_of_succ_lt_succ h)).cons x)
theorem PartsOk.move {ss : List Sup} {ps : List Prt} {ns : List W} (h : PartsOk ss ps ns) {n : Nat} (hn : n < ns.length) {c : Int} (h1 : 1 ≤ c) (h2 : c ≤ 2) : PartsOk ss (ps ++ [(ns[n], c)]) (ns.eraseIdx n) := by
  have pm : ((ps ++ [((ns[n], c) : Prt)]).map (·.1) ++ ns.eraseIdx n).Perm (ps.map (·.1) ++ ns) := by
    rw [List.map_append, List.append_assoc]
    exact List.Perm.append_left _ (erase_perm ns n hn)
  refine ⟨pm.nodup_iff.mpr h.1, fun x hx => h.2.1 x (pm.mem_iff.mp hx), fun p hp => ?_⟩
  rcases List.mem_append.mp hp with z | z
  · exact h.2.2 p z
  · rw [List.mem_singleton.mp z]; exact ⟨h1, h2⟩
section
variable {P : Program} {w : World} {K : PySem.W.Frag} {mg : Str → Option Value} {base : Heap}
theorem sc_law_deals : FnScope ["_law_row", "_law_many", "_law_houses", "_law_supplies", "_law_buyers", "_law_deals_here", "_law_at", "_law_parts", "_law_names", "_law_turn", "_law_buyer", "_law_supply", "_law_one"] ["_law_row", "_law_many"] (defScope (top 84)) := ⟨rfl, rfl, rfl, by decide +kernel, rfl, by decide +kernel, by decide +kernel⟩
theorem cal_law_deals (T : Txt K mg) (R : RowC K) : Cal P w K mg base "_law_deals" 3 ["_law_row", "_law_many"] (spT K (JR R) (fun _ : Unit => [.raw (.ref R.p), .int 3]) (fun _ => True) (fun _ d => ∃ S : Setup, Drawn S ∧ d = .tup [enc S.1, enc S.2.1, .ptup (S.2.2.map enc)])) := by
  refine cal_of T.d_law_deals fun f fd F => fn_ok F sc_law_deals (fun _ => rfl) fun cdv A outer s H E a hr pre => ?_
  rw [startE_lit 11 rfl]
  show DB _ _ [.d (.raw (.ref R.p)), .d (.int 3), .no, .no, .no, .no, .no, .no, .no, .no, .no, .no, .no] _ _ (fun d => ∃ S : Setup, Drawn S ∧ d = .tup [enc S.1, enc S.2.1, .ptup (S.2.2.map enc)])
  -- houses, supplies, buyers, deals
  refine db_consM (ds_unp (is := [2, 3, 4, 5]) (P := fun l => ∃ hs : List W, hs ≠ [] ∧ (∀ x ∈ hs, x ∈ [W.east, .west]) ∧ hs.length ≤ 2 ∧ l = [.d (encL hs), .own (.lst []), .own (.lst []), .own (.lst [])]) (Φ := fun env => ∃ hs : List W, hs ≠ [] ∧ (∀ x ∈ hs, x ∈ [W.east, .west]) ∧ hs.length ≤ 2 ∧ env = [.d (.raw (.ref R.p)), .d (.int 3), .d (encL hs), .own (.lst []), .own (.lst []), .own (.lst []), .no, .no, .no, .no, .no, .no, .no]) ?a1 ?a2 ?a3) ?a4
  case a1 =>
    refine as_cons (P := fun x => ∃ hs : List W, hs ≠ [] ∧ (∀ x ∈ hs, x ∈ [W.east, .west]) ∧ hs.length ≤ 2 ∧ x = .d (encL hs)) (se_ep (ep_slLN (ds := [enc W.east, enc W.west]) (N := fun n => 1 ≤ n ∧ n ≤ 2) (de_fe (df_lst (da_cons (de_W .east) (da_cons (de_W .west) da_nil)))) ((ep_addN (i := 1) de_int (c_law_taken T (hr.mono (by decide)) 2 (de_var (i := 0) rfl) de_int (by decide) (by decide))).imp fun d ⟨n, hn, e⟩ => ⟨1 + n, ⟨by omega, by omega⟩, e⟩)) ?_) (das_cons (se_f df_nil) (das_cons (se_f df_nil) (das_cons (se_f df_nil) as_nil))) ?_
    · rintro d ⟨n, ⟨n1, n2⟩, rfl⟩
      have hn : n = 1 ∨ n = 2 := by omega
      rcases hn with e | e
      · subst e; exact ⟨[.east], by decide, by decide, by decide, rfl⟩
      · subst e; exact ⟨[.east, .west], by decide, by decide, by decide, rfl⟩
    · rintro x xs ⟨hs, h1, h2, h3, rfl⟩ rfl
      exact ⟨hs, h1, h2, h3, rfl⟩
  case a2 =>
    rintro xs ⟨hs, h1, h2, h3, rfl⟩
    exact ⟨rfl, hs, h1, h2, h3, rfl⟩
  case a3 => exact (pg_tup rfl (pgs_cons (pg_name (i := 2) sc_law_deals.nd rfl (Or.inl rfl)) (pgs_cons (pg_name (i := 3) sc_law_deals.nd rfl (Or.inl rfl)) (pgs_cons (pg_name (i := 4) sc_law_deals.nd rfl (Or.inl rfl)) (pgs_cons (pg_name (i := 5) sc_law_deals.nd rfl (Or.inl rfl)) pgs_nil)))))
  rintro _ ⟨hs, hs0, hs1, hs2, rfl⟩
  -- supplies
  refine db_consM (ds_forR (t := .nm 6) (N := fun n => 1 ≤ n ∧ n ≤ 3) (Φ := fun env => ∃ n xs x6, 1 ≤ n ∧ n ≤ 3 ∧ SupsOk n xs ∧ env = [.d (.raw (.ref R.p)), .d (.int 3), .d (encL hs), .own (.lst (xs.map enc)), .own (.lst []), .own (.lst []), x6, .no, .no, .no, .no, .no, .no])
    (ip_rangeN T.f_range ((ep_addN (i := 1) de_int (c_law_taken T (hr.mono (by decide)) 3 (de_var (i := 0) rfl) de_int (by decide) (by decide))).imp fun d ⟨n, hn, e⟩ => ⟨1 + n, ⟨by omega, by omega⟩, e⟩) fun n hn => by omega)
    (fun n i env => ∃ xs x6, SupsOk i xs ∧ env = [.d (.raw (.ref R.p)), .d (.int 3), .d (encL hs), .own (.lst (xs.map enc)), .own (.lst []), .own (.lst []), x6, .no, .no, .no, .no, .no, .no]) (fun n hn => ⟨[], .no, ⟨rfl, fun _ h => by cases h⟩, rfl⟩) ?b1 ?b2 ?b3 PassesOwn.never) ?b4
  case b1 =>
    rintro n ⟨n1, n2⟩ i _ hi ⟨xs, x6, ok, rfl⟩
    refine ⟨_, .nm _ _ _, ?_⟩
    show DB _ _ [.d (.raw (.ref R.p)), .d (.int 3), .d (encL hs), .own (.lst (xs.map enc)), .own (.lst []), .own (.lst []), .d (.int (0 + (i : Nat))), .no, .no, .no, .no, .no, .no] _ _ _
    have lx := ok.len
    refine db_cons (ds_append (i := 3) (P := fun d => ∃ t : Sup, t.1 = sW i ∧ t.2.1 ∈ [W.east, .west] ∧ 0 ≤ t.2.2 ∧ t.2.2 ≤ 3 ∧ d = enc t) rfl (ep_tup (ap_dc (de_sname (i := i) (by omega) T.f_str (de_var (i := 6) rfl)) (ap_ec (c_law_pickD T (hr.mono (by decide)) (ds := hs.map enc) (de_var (i := 0) rfl) (de_var (i := 2) rfl) (fun z => hs0 (List.map_eq_nil_iff.mp z)) (by rw [List.length_map]; omega)) (ap_ec (c_law_taken T (hr.mono (by decide)) 4 (de_var (i := 0) rfl) de_int (by decide) (by decide)) da_nil))) ?_) (small (m := 1000) (by rw [List.length_map]; omega)) ?_)
    · rintro _ ⟨_, rfl, d1, _, rfl, hd1, d2, _, rfl, ⟨c, hc, rfl⟩, rfl⟩
      obtain ⟨h, hh, rfl⟩ := List.mem_map.mp hd1
      exact ⟨show 3 ≤ sizeLine by decide, (sW i, h, (c : Int)), rfl, hs1 h hh, by show (0 : Int) ≤ c; omega, by show (c : Int) ≤ 3; omega, rfl⟩
    · rintro _ ⟨t, t1, t2, t3, t4, rfl⟩
      exact db_nil ⟨xs ++ [t], _, ok.snoc t1 t2 t3 t4, by rw [List.map_append]; rfl⟩
  case b2 =>
    rintro n ⟨n1, n2⟩ _ ⟨xs, x6, ok, rfl⟩
    exact ⟨n, xs, x6, n1, n2, ok, rfl⟩
  case b3 => exact (pg_name (i := 6) sc_law_deals.nd rfl (Or.inl rfl))
  rintro _ ⟨n, ss, x6, n1, n2, sok, rfl⟩
  have ls := sok.len
  -- buyers
  refine db_consM (ds_forR (t := .nm 6) (N := fun n => 1 ≤ n ∧ n ≤ 2) (Φ := fun env => ∃ m xs x6, 1 ≤ m ∧ m ≤ 2 ∧ BuysOk m xs ∧ env = [.d (.raw (.ref R.p)), .d (.int 3), .d (encL hs), .own (.lst (ss.map enc)), .own (.lst (xs.map enc)), .own (.lst []), x6, .no, .no, .no, .no, .no, .no])
    (ip_rangeN T.f_range ((ep_addN (i := 1) de_int (c_law_taken T (hr.mono (by decide)) 2 (de_var (i := 0) rfl) de_int (by decide) (by decide))).imp fun d ⟨n, hn, e⟩ => ⟨1 + n, ⟨by omega, by omega⟩, e⟩) fun n hn => by omega)
    (fun n i env => ∃ xs x6, BuysOk i xs ∧ env = [.d (.raw (.ref R.p)), .d (.int 3), .d (encL hs), .own (.lst (ss.map enc)), .own (.lst (xs.map enc)), .own (.lst []), x6, .no, .no, .no, .no, .no, .no]) (fun n hn => ⟨[], x6, ⟨rfl, fun _ h => by cases h⟩, rfl⟩) ?c1 ?c2 ?c3 PassesOwn.never) ?c4
  case c1 =>
    rintro m ⟨m1, m2⟩ i _ hi ⟨xs, x6, ok, rfl⟩
    refine ⟨_, .nm _ _ _, ?_⟩
    show DB _ _ [.d (.raw (.ref R.p)), .d (.int 3), .d (encL hs), .own (.lst (ss.map enc)), .own (.lst (xs.map enc)), .own (.lst []), .d (.int (0 + (i : Nat))), .no, .no, .no, .no, .no, .no] _ _ _
    have lx := ok.len
    refine db_cons (ds_append (i := 4) (P := fun d => ∃ t : Buy, t.1 = bW i ∧ 0 ≤ t.2 ∧ t.2 ≤ 7 ∧ d = enc t) rfl (ep_tup (ap_dc (de_bname (i := i) (by omega) T.f_str (de_var (i := 6) rfl)) (ap_ec (c_law_taken T (hr.mono (by decide)) 8 (de_var (i := 0) rfl) de_int (by decide) (by decide)) da_nil)) ?_) (small (m := 1000) (by rw [List.length_map]; omega)) ?_)
    · rintro _ ⟨_, rfl, d2, _, rfl, ⟨c, hc, rfl⟩, rfl⟩
      exact ⟨show 2 ≤ sizeLine by decide, (bW i, (c : Int)), rfl, by show (0 : Int) ≤ c; omega, by show (c : Int) ≤ 7; omega, rfl⟩
    · rintro _ ⟨t, t1, t3, t4, rfl⟩
      exact db_nil ⟨xs ++ [t], _, ok.snoc t1 t3 t4, by rw [List.map_append]; rfl⟩
  case c2 =>
    rintro m ⟨m1, m2⟩ _ ⟨xs, x6, ok, rfl⟩
    exact ⟨m, xs, x6, m1, m2, ok, rfl⟩
  case c3 => exact (pg_name (i := 6) sc_law_deals.nd rfl (Or.inl rfl))
  clear x6
  rintro _ ⟨m, bs, x6, m1, m2, bok, rfl⟩
  have lb := bok.len
  -- deals
  refine db_consM (ds_forR (t := .nm 6) (N := fun n => n < 4) (Φ := fun env => ∃ l xs x6 x7 x8 x9 x10, l ≤ 3 ∧ DealsOk ss bs l xs ∧ env = [.d (.raw (.ref R.p)), .d (.int 3), .d (encL hs), .own (.lst (ss.map enc)), .own (.lst (bs.map enc)), .own (.lst (xs.map enc)), x6, x7, x8, x9, x10, .no, .no])
    (ip_rangeN T.f_range (c_law_taken T (hr.mono (by decide)) 4 (de_var (i := 0) rfl) (DE.cast (de_add (i := 3) (j := 1) (de_var (i := 1) rfl) de_int) rfl) (by decide) (by decide)) fun n hn => by omega)
    (fun n i env => ∃ xs x6 x7 x8 x9 x10, DealsOk ss bs i xs ∧ env = [.d (.raw (.ref R.p)), .d (.int 3), .d (encL hs), .own (.lst (ss.map enc)), .own (.lst (bs.map enc)), .own (.lst (xs.map enc)), x6, x7, x8, x9, x10, .no, .no]) (fun n hn => ⟨[], x6, .no, .no, .no, .no, ⟨rfl, fun _ h => by cases h⟩, rfl⟩) ?e1 ?e2 ?e3 PassesOwn.never) ?e4
  case e3 => exact (pg_name (i := 6) sc_law_deals.nd rfl (Or.inl rfl))
  case e2 =>
    rintro l hl _ ⟨xs, x6, x7, x8, x9, x10, ok, rfl⟩
    exact ⟨l, xs, x6, x7, x8, x9, x10, by omega, ok, rfl⟩
  case e4 =>
    rintro _ ⟨l, ds, x6, x7, x8, x9, x10, hl, dok, rfl⟩
    refine db_cons (ds_retD (d := .tup [enc ss, enc ds, .ptup (bs.map enc)]) (de_tup (da_cons (de_tuple T.f_tuple (de_var (i := 3) (d := .lst (ss.map enc)) rfl)) (da_cons (de_tuple T.f_tuple (de_var (i := 5) (d := .lst (ds.map enc)) rfl)) (da_cons (de_ptuple T.f_tuple (de_var (i := 4) (d := .lst (bs.map enc)) rfl)) da_nil)))) ?_)
    exact ⟨(ss, ds, bs), ⟨⟨n, n1, n2, sok⟩, ⟨m, m1, m2, bok⟩, ⟨l, hl, dok⟩⟩, rfl⟩
  clear x6
  rintro l hl i _ hi ⟨xs, x6, x7, x8, x9, x10, dok, rfl⟩
  have ld := dok.len
  refine ⟨_, .nm _ _ _, ?_⟩
  show DB _ _ [.d (.raw (.ref R.p)), .d (.int 3), .d (encL hs), .own (.lst (ss.map enc)), .own (.lst (bs.map enc)), .own (.lst (xs.map enc)), .d (.int (0 + (i : Nat))), x7, x8, x9, x10, .no, .no] _ _ _
  -- parts, names
  refine db_consM (ds_par (i := 7) (j := 8) (P := fun l => l = [.own (.lst []), .own (.lst ((ss.map (·.1)).map enc))]) (Φ := fun env => env = [.d (.raw (.ref R.p)), .d (.int 3), .d (encL hs), .own (.lst (ss.map enc)), .own (.lst (bs.map enc)), .own (.lst (xs.map enc)), .d (.int (0 + (i : Nat))), .own (.lst []), .own (.lst ((ss.map (·.1)).map enc)), x9, x10, .no, .no]) ?f1 sc_law_deals.nd ?f2) ?f3
  case f1 =>
    refine das_cons (se_f df_nil) (das_cons (se_f (fe_cold (P := fun ds => ds = (ss.map (·.1)).map enc) ?_ ?_)) as_nil)
    · have z : ∀ {X : Cx} {J : Jn} {env : List SL} {e : Expr}, DF X J env e (ss.map fun s => enc s.1) → FE' X J env e (fun ds => ds = (ss.map (·.1)).map enc) := fun {X J env e} h => by
        rw [List.map_map]; exact h
      exact z (df_lc0 (xs := ss) (f := enc) (g := fun s => enc s.1) (t := .nm 11) (own := [("_law_supply", 11)]) (di_lst (de_var (i := 3) (d := .lst (ss.map enc)) rfl)) rfl sc_law_deals.nd (blkOk_by (N := ["_law_row", "_law_many", "_law_houses", "_law_supplies", "_law_buyers", "_law_deals_here", "_law_at", "_law_parts", "_law_names", "_law_turn", "_law_buyer", "_law_supply", "_law_one"]) (sc := defScope (top 84)) (by decide +kernel)) (by decide) (fun _ _ _ _ _ => (pg_name (i := 11) sc_law_deals.nd rfl (Or.inl rfl))) (fun _ => .nm _ _ _) (fun _ _ _ _ _ x hx => (de_ixn 0 (de_var (i := 11) rfl) rfl)) (small (m := 10) (by omega)))
    · rintro _ rfl
      exact TupAll.map (fun w => En.tu w) _
  case f2 =>
    rintro _ rfl
    exact ⟨_, _, rfl, rfl⟩
  rintro _ rfl
  -- the parts' loop
  refine db_consM (ds_forR (t := .nm 9) (N := fun n => 1 ≤ n ∧ n ≤ ss.length) (Φ := fun env => ∃ ps ns x9, PartsOk ss ps ns ∧ ps ≠ [] ∧ ps.length ≤ 3 ∧ env = [.d (.raw (.ref R.p)), .d (.int 3), .d (encL hs), .own (.lst (ss.map enc)), .own (.lst (bs.map enc)), .own (.lst (xs.map enc)), .d (.int (0 + (i : Nat))), .own (.lst (ps.map enc)), .own (.lst (ns.map enc)), x9, x10, .no, .no])
    (ip_rangeN T.f_range ((ep_addN (i := 1) de_int (c_law_taken T (hr.mono (by decide)) ss.length (de_var (i := 0) rfl) (de_cold (DE.cast (de_len (ds := (ss.map (·.1)).map enc) T.f_len (de_var (i := 8) rfl) (.lst _)) (by rw [List.length_map, List.length_map])) (.int _)) (by omega) (by omega))).imp fun d ⟨n, hn, e⟩ => ⟨1 + n, ⟨by omega, by omega⟩, e⟩) fun n hn => by omega)
    (fun n i2 env => ∃ ps ns x9, PartsOk ss ps ns ∧ ps.length = i2 ∧ ns.length + i2 = ss.length ∧ env = [.d (.raw (.ref R.p)), .d (.int 3), .d (encL hs), .own (.lst (ss.map enc)), .own (.lst (bs.map enc)), .own (.lst (xs.map enc)), .d (.int (0 + (i : Nat))), .own (.lst (ps.map enc)), .own (.lst (ns.map enc)), x9, x10, .no, .no]) (fun q hq => ⟨[], ss.map (·.1), x9, ?g0, rfl, by rw [List.length_map]; rfl, rfl⟩) ?g1 ?g2 ?g3 PassesOwn.never) ?g4
  case g0 =>
    refine ⟨?_, fun x hx => hx, fun _ h => by cases h⟩
    show (ss.map (·.1)).Nodup
    rw [sok.1]
    have n3 : n = 1 ∨ n = 2 ∨ n = 3 := by omega
    rcases n3 with e | e | e <;> subst e <;> decide
  case g3 => exact (pg_name (i := 9) sc_law_deals.nd rfl (Or.inl rfl))
  case g2 =>
    rintro n ⟨q1, q2⟩ _ ⟨ps, ns, x9, ok, p1, p2, rfl⟩
    exact ⟨ps, ns, x9, ok, fun z => by rw [z] at p1; simp at p1; omega, by omega, rfl⟩
  case g1 =>
    rintro n ⟨q1, q2⟩ i2 _ hi2 ⟨ps, ns, x9, ok, p1, p2, rfl⟩
    refine ⟨_, .nm _ _ _, ?_⟩
    show DB _ _ [.d (.raw (.ref R.p)), .d (.int 3), .d (encL hs), .own (.lst (ss.map enc)), .own (.lst (bs.map enc)), .own (.lst (xs.map enc)), .d (.int (0 + (i : Nat))), .own (.lst (ps.map enc)), .own (.lst (ns.map enc)), .d (.int (0 + (i2 : Nat))), x10, .no, .no] _ _ _
    have ln : (ns.map (enc : W → D)).length = ns.length := List.length_map _
    refine db_cons (ds_appPop (i := 7) (j := 8) (ds := ps.map enc) (es := ns.map enc) (P2 := fun d => ∃ c : Nat, c < 2 ∧ d = .int ((1 + c : Nat) : Nat)) rfl rfl (by decide) ?h1 ?h2 (by rw [List.length_map]; omega) (by rw [ln]; omega) ?h3)
    case h1 =>
      rw [ln]
      exact c_law_taken T (hr.mono (by decide)) ns.length (de_var (i := 0) rfl) (de_cold (DE.cast (de_len (ds := ns.map enc) T.f_len (de_var (i := 8) rfl) (.lst _)) (by rw [ln])) (.int _)) (by omega) (by omega)
    case h2 =>
      intro z hz
      exact ep_addN (i := 1) de_int (c_law_taken T (hr.mono (by decide)) 2 (de_var (i := 0) rfl) de_int (by decide) (by decide))
    case h3 =>
      rintro z x d2 hx ⟨c, hc, rfl⟩
      have hz : z < ns.length := by
        have := (List.getElem?_eq_some_iff.mp hx).1
        rwa [ln] at this
      have ex : x = enc ns[z] := by
        rw [List.getElem?_map, List.getElem?_eq_getElem hz] at hx
        exact (Option.some.inj hx).symm
      subst ex
      refine db_nil ⟨ps ++ [(ns[z], ((1 + c : Nat) : Int))], ns.eraseIdx z, .d (.int (0 + (i2 : Nat))), ok.move hz (by omega) (by omega), by rw [List.length_append, p1]; rfl, ?_, ?_⟩
      · rw [List.length_eraseIdx_of_lt hz]; omega
      · rw [map_erase, List.map_append]; rfl
  clear x9
  rintro _ ⟨ps, ns, x9, pok, p0, p3, rfl⟩
  -- the buyer
  refine db_consM (ds_set (i := 10) (P := fun d => ∃ b : W, b ∈ bs.map (fun z : Buy => z.1) ∧ d = enc b) (Φ := fun env => ∃ b : W, b ∈ bs.map (fun z : Buy => z.1) ∧ env = [.d (.raw (.ref R.p)), .d (.int 3), .d (encL hs), .own (.lst (ss.map enc)), .own (.lst (bs.map enc)), .own (.lst (xs.map enc)), .d (.int (0 + (i : Nat))), .own (.lst (ps.map enc)), .own (.lst (ns.map enc)), x9, .d (enc b), .no, .no]) (ep_cold ((c_law_pickD T (hr.mono (by decide)) (ds := bs.map fun b => enc b.1) (de_var (i := 0) rfl) (de_fe (df_lc0 (xs := bs) (f := enc) (g := fun b => enc b.1) (t := .nm 12) (own := [("_law_one", 12)]) (di_lst (de_var (i := 4) (d := .lst (bs.map enc)) rfl)) rfl sc_law_deals.nd (blkOk_by (N := ["_law_row", "_law_many", "_law_houses", "_law_supplies", "_law_buyers", "_law_deals_here", "_law_at", "_law_parts", "_law_names", "_law_turn", "_law_buyer", "_law_supply", "_law_one"]) (sc := defScope (top 84)) (by decide +kernel)) (by decide) (fun _ _ _ _ _ => (pg_name (i := 12) sc_law_deals.nd rfl (Or.inl rfl))) (fun _ => .nm _ _ _) (fun _ _ _ _ _ x hx => (de_ixn 0 (de_var (i := 12) rfl) rfl)) (small (m := 10) (by omega)))) (fun z => by rw [List.map_eq_nil_iff] at z; rw [z] at lb; simp at lb; omega) (by rw [List.length_map]; omega)).imp fun d hd => ?_) ?_) ?_ sc_law_deals.nd) ?k4
  · obtain ⟨b, hb, rfl⟩ := List.mem_map.mp hd
    exact ⟨b.1, List.mem_map.mpr ⟨b, hb, rfl⟩, rfl⟩
  · rintro d ⟨b, hb, rfl⟩
    exact En.tu b
  · rintro d ⟨b, hb, rfl⟩
    exact ⟨b, hb, rfl⟩
  rintro _ ⟨b, hb, rfl⟩
  refine db_cons (ds_append (i := 5) (P := fun d => ∃ t : Deal, t.1 = dW i ∧ DealOk ss bs t ∧ d = enc t) rfl (ep_tup (ap_dc (de_dname (i := i) (by omega) T.f_str (de_var (i := 6) rfl)) (ap_dc (de_var (i := 10) (d := enc b) rfl) (ap_dc (d := enc ps) (de_cold (de_tuple T.f_tuple (de_var (i := 7) (d := .lst (ps.map enc)) rfl)) (En.tu ps)) (ap_ec (c_law_taken T (hr.mono (by decide)) 6 (de_var (i := 0) rfl) de_int (by decide) (by decide)) da_nil)))) ?_) (small (m := 1000) (by rw [List.length_map]; omega)) ?_)
  · rintro _ ⟨_, rfl, _, rfl, _, rfl, d2, _, rfl, ⟨c, hc, rfl⟩, rfl⟩
    refine ⟨show 4 ≤ sizeLine by decide, (dW i, b, ps, (c : Int)), rfl, ⟨hb, ⟨?_, ?_, pok.2.2⟩, p0, p3, by show (0 : Int) ≤ c; omega, by show (c : Int) ≤ 5; omega⟩, rfl⟩
    · show (ps.map (fun z : Prt => z.1) ++ []).Nodup
      rw [List.append_nil]
      exact (List.nodup_append.mp pok.1).1
    · intro x hx
      have hx' : x ∈ ps.map (fun z : Prt => z.1) ++ [] := hx
      rw [List.append_nil] at hx'
      exact pok.2.1 x (List.mem_append_left _ hx')
  · rintro _ ⟨t, t1, t2, rfl⟩
    exact db_nil ⟨xs ++ [t], _, _, _, _, _, dok.snoc t1 t2, by rw [List.map_append]; rfl⟩
end
section
variable {X : Cx} {J : Jn} {env : List SL} {a b : Expr} {pos p : Pos}
theorem c_law_deals (T : Txt X.K X.mg) {R : RowC X.K} (hr : Room 3 X.A) (ha : DE X (JR R) env a (.raw (.ref R.p))) (hb : DE X (JR R) env b (.int 3)) (hg : Gl X "_law_deals" := by rfl) (s0 : starEach [a, b] X.env = (false, eval a X.env) :: starEach [b] X.env := by rfl) (s1 : starEach [b] X.env = (false, eval b X.env) :: starEach [] X.env := by rfl) (hpl : (backTo pos (starEach [b] X.env)).any (·.1) = false := by rfl) :
    EP' X (JR R) env (.Call (.Name "_law_deals" p) [a, b] [] pos) (fun d => ∃ S : Setup, Drawn S ∧ d = .tup [enc S.1, enc S.2.1, .ptup (S.2.2.map enc)]) :=
  cal_eeJ (cal_law_deals T R) hr () (da_cons ha (da_cons hb da_nil s1) s0) trivial hg s0 hpl
end
end Sh
/-! B2: _law_alike of two empty lists. -/
namespace Sh
open PySem PySem.Spec PyProof.Rows L2
open En (enc)
section
variable {X : Cx} {J : Jn} {env : List SL} {a b c : Expr} {pos p tpos : Pos} {d : D} {b1 b2 : Bool}
/-- isinstance(e, (T1, T2)) -/
theorem de_isi2 {T1 T2 n : String} {r1 r2 : Bool} {kt} (hm : X.mg "isinstance" = none) (ha : DE X J env a d) (hb : DE X J env b (.raw (.ty T1))) (hc : DE X J env c (.raw (.ty T2))) (ht : tyD d = some n) (hk1 : kitB n T1 = some r1) (hk2 : kitB n T2 = some r2) (hg : Gl X "isinstance" := by rfl)
    (he : starEach [a, .Tuple [b, c] kt tpos] X.env = (false, eval a X.env) :: starEach [.Tuple [b, c] kt tpos] X.env := by rfl) (he2 : starEach [.Tuple [b, c] kt tpos] X.env = (false, eval (.Tuple [b, c] kt tpos) X.env) :: starEach [] X.env := by rfl)
    (he3 : starEach [b, c] X.env = (false, eval b X.env) :: starEach [c] X.env := by rfl) (he4 : starEach [c] X.env = (false, eval c X.env) :: starEach [] X.env := by rfl)
    (hpl : (backTo pos (starEach [.Tuple [b, c] kt tpos] X.env)).any (·.1) = false := by rfl) : DE X J env (.Call (.Name "isinstance" p) [a, .Tuple [b, c] kt tpos] [] pos) (.bl (r1 || r2)) := fun G0 H0 σ H G Q s q => by
  refine wp_of (pe_callB call_isiT hg hm (by decide +kernel) (pa_cons pe_wp (pa_cons (pe_tup (pa_cons pe_wp (pa_cons pe_wp pa_nil (by exact he4)) (by exact he3))) pa_nil (by exact he2)) (by exact he)) (by decide) (by decide) he hpl) ?_
  refine ha G0 H0 σ H G _ s fun v d1 G1 H1 u1 i1 e1 => ?_
  subst e1
  refine hb G0 H0 σ H1 G1 _ (s.ext u1) fun v2 d2 G2 H2 u2 i2 e2 => ?_
  subst e2
  refine hc G0 H0 σ H2 G2 _ ((s.ext u1).ext u2) fun v3 d3 G3 H3 u3 i3 e3 => ?_
  subst e3
  refine ⟨show 2 ≤ sizeLine by decide, fun t nt => ?_⟩
  have s3 := ((s.ext u1).ext u2).ext u3
  have u4 := Up.newH s3.bs (o := .tup [v2, v3]) nt
  have i1' := (i1.mono u2.g).mono u3.g
  refine ⟨v, t, [v2, v3], .type n, [.type T1, .type T2], r1 || r2, rfl, upd_same, ?_, ty_of i1' ht u4.gh, ?_, ?_⟩
  · rw [i2.raw_inv, i3.raw_inv]
    exact .cons (.ty T1) (.cons (.ty T2) .nil)
  · refine kitAny_cons (kit_ty hk1) (fun h => ?_) (fun h => by rw [h]; rfl)
    subst h
    exact kitAny_cons (kit_ty hk2) (fun h => by subst h; exact kitAny_nil) (fun h => by rw [h]; rfl)
  · exact q _ (.bl (r1 || r2)) _ _ (((u1.trans u2).trans u3).trans u4) (.bl _) rfl
theorem rb_neB {K : PySem.W.Frag} : RB K J rNe (· = .bl b1) (· = .bl b2) (· = .bl (!decide (b1 = b2))) := fun v u d e G H Q b r1 r2 p1 p2 q => by
  subst p1 p2
  have e1 := r1.bl_inv
  have e2 := r2.bl_inv
  subst e1 e2
  refine ⟨rfl, ?_⟩
  have e : decide (V.bl b1 = V.bl b2) = decide (b1 = b2) := by cases b1 <;> cases b2 <;> rfl
  rw [e]
  exact q _ (.bl (!decide (b1 = b2))) G H (Up.refl b) (.bl _) rfl
theorem dt_neB (ha : DE X J env a (.bl b1)) (hb : DE X J env b (.bl b2)) : DT X J env (.Compare a [.NotEq] [b] pos) (!decide (b1 = b2)) := dt_cmp op_ne rb_neB ha hb (nomark _)
end
section
variable {P : Program} {w : World} {K : PySem.W.Frag} {mg : Str → Option Value} {base : Heap}
theorem sc_law_alike : FnScope ["_law_found", "_law_due", "_law_k"] ["_law_found", "_law_due"] (defScope (top 83)) := ⟨rfl, rfl, rfl, by decide +kernel, rfl, by decide +kernel, by decide +kernel⟩
theorem cal_law_alike (T : Txt K mg) : Cal P w K mg base "_law_alike" 1 ["_law_found", "_law_due"] (spT K J0 (fun _ : Unit => [.lst [], .lst []]) (fun _ => True) (fun _ d => d = .bl true)) := by
  refine cal_of T.d_law_alike fun f fd F => fn_ok F sc_law_alike (fun _ => rfl) fun cdv A outer s H E a hr pre => ?_
  rw [startE_lit 1 rfl]
  show DB _ _ [.d (.lst []), .d (.lst []), .no] _ _ (fun d => d = .bl true)
  refine db_cons (ds_if (b := true) (dt_val (de_isi2 (T1 := "tuple") (T2 := "list") (n := "list") (r1 := false) (r2 := true) T.f_isinstance (de_var (i := 1) rfl) (de_bty T.f_tuple (by decide +kernel)) (de_bty T.f_list (by decide +kernel)) rfl (by decide +kernel) (by decide +kernel))) (fun _ => ?_) (fun h => absurd h (by decide)))
  refine db_cons (ds_if (b := false) (dt_w (dw_or (c1 := false) (c2 := false) (dt_not (c1 := true) (dt_val (de_isi2 (T1 := "tuple") (T2 := "list") (n := "list") (r1 := false) (r2 := true) T.f_isinstance (de_var (i := 0) rfl) (de_bty T.f_tuple (by decide +kernel)) (de_bty T.f_list (by decide +kernel)) rfl (by decide +kernel) (by decide +kernel)))) fun _ => (dw_or1 (dt_neB (b1 := true) (b2 := true) (de_isi (T := "list") (n := "list") (r := true) T.f_isinstance (de_var (i := 0) rfl) (de_bty T.f_list (by decide +kernel)) rfl (by decide +kernel)) (de_isi (T := "list") (n := "list") (r := true) T.f_isinstance (de_var (i := 1) rfl) (de_bty T.f_list (by decide +kernel)) rfl (by decide +kernel)))))) (fun h => absurd h (by decide)) (fun _ => ?_))
  refine db_nil ?_
  refine db_cons (ds_if (b := false) (dt_ne hr (x := (0 : Int)) (y := (0 : Int)) (de_len (ds := []) T.f_len (de_var (i := 0) rfl) (.lst _)) (de_len (ds := []) T.f_len (de_var (i := 1) rfl) (.lst _))) (fun h => absurd h (by decide)) (fun _ => ?_))
  refine db_nil ?_
  refine db_cons (ds_retD (de_eqL hr (x := ([] : List Int)) (y := ([] : List Int)) (de_fe (df_lc (xs := List.range 0) (f := fun i => D.int (0 + (i : Nat))) (p := fun _ => true) (g := fun i => D.int (0 + (i : Nat))) (t := .nm 2) (own := [("_law_k", 2)]) (di_rangeN (n := 0) T.f_range (de_len (ds := []) T.f_len (de_var (i := 1) rfl) (.lst _)) (by decide)) rfl sc_law_alike.nd (blkOk_by (N := ["_law_found", "_law_due", "_law_k"]) (sc := defScope (top 83)) (by decide +kernel)) (by decide) (fun _ _ _ _ _ => (pg_name (i := 2) sc_law_alike.nd rfl (Or.inl rfl))) (fun _ => .nm _ _ _) (fun _ _ _ _ _ x hx => (by cases hx)) (fun _ _ _ _ _ x hx => (by cases hx)) (by decide))) (de_fe df_nil)) rfl)
end
section
variable {X : Cx} {J : Jn} {env : List SL} {a b : Expr} {pos p : Pos}
theorem c_law_alike (T : Txt X.K X.mg) (hr : Room 1 X.A) (ha : DE X J env a (.lst [])) (hb : DE X J env b (.lst [])) (hg : Gl X "_law_alike" := by rfl) (s0 : starEach [a, b] X.env = (false, eval a X.env) :: starEach [b] X.env := by rfl) (s1 : starEach [b] X.env = (false, eval b X.env) :: starEach [] X.env := by rfl) (hpl : (backTo pos (starEach [b] X.env)).any (·.1) = false := by rfl) :
    DE X J env (.Call (.Name "_law_alike" p) [a, b] [] pos) (.bl true) := cal_de (cal_law_alike T) hr () (da_cons ha (da_cons hb da_nil s1) s0) trivial hg s0 hpl
end
end Sh
/-! Sr6: an own list becomes data; lists taken apart. -/
namespace Sh
open PySem PySem.Spec PyProof.Rows L2
open En (enc)
section
variable {K : PySem.W.Frag} {J : Jn} {G0 H0 G H : Hp} {env : List SL} {σ : L2.St}
theorem StG.showL (s : StG K J G0 H0 env σ H G) {i : Nat} {ds : List D} (e : env[i]? = some (.own (.lst ds))) : ∃ G', StG K J G0 H0 (env.set i (.d (.lst ds))) σ H G' := by
  obtain ⟨ad, h1, h2, h3⟩ := s.sl
  obtain ⟨p, e2, ⟨ea, vs, hp, al⟩, f⟩ := h1 i _ e
  have pm : p ∈ ad i := by rw [ea]; exact List.mem_singleton.mpr rfl
  have h0 := (f p pm).1
  have g0 := (f p pm).2
  have gg : Same G (upd G p (.lst vs)) := fun a o q => by rw [upd_ne (ne_of_none q g0)]; exact q
  have hi : i < env.length := (List.getElem?_eq_some_iff.mp e).1
  refine ⟨upd G p (.lst vs), s.up.show h0 g0 hp, s.al0, by rw [List.length_set]; exact s.len, put ad i [], fun j sl q => ?_, fun j k a n m1 m2 => ?_, fun j hj => ?_⟩
  · by_cases z : j = i
    · subst z
      rw [List.getElem?_set_self hi] at q
      cases q
      rw [put_same]
      exact ⟨rfl, .ref p, e2, .lst upd_same (al.mono gg)⟩
    · rw [List.getElem?_set_ne (Ne.symm z)] at q
      rw [put_ne z]
      have y := h1 j sl q
      cases sl with
      | no => exact y
      | d x => obtain ⟨y1, v, y2, r⟩ := y; exact ⟨y1, v, y2, r.mono gg⟩
      | own w =>
        obtain ⟨p2, e3, r3, f3⟩ := y
        refine ⟨p2, e3, r3.ext gg fun _ _ _ q => q, fun a ha => ⟨(f3 a ha).1, ?_⟩⟩
        rw [upd_ne fun y => h2 j i a z ha (by rw [y]; exact pm)]
        exact (f3 a ha).2
  · by_cases z : j = i
    · subst z; rw [put_same] at m1; cases m1
    · by_cases z2 : k = i
      · subst z2; rw [put_same] at m2; cases m2
      · rw [put_ne z] at m1; rw [put_ne z2] at m2; exact h2 j k a n m1 m2
  · rw [List.length_set] at hj
    by_cases z : j = i
    · subst z; omega
    · rw [put_ne z]; exact h3 j hj
end
section
variable {X : Cx} {J : Jn} {env : List SL} {e : Expr} {sts : List Stmt} {Φ : List SL → Prop} {Ψ : D → Prop} {pos : Pos}
theorem db_show (i : Nat) {ds : List D} (ho : env[i]? = some (.own (.lst ds))) (h : DB X J (env.set i (.d (.lst ds))) sts Φ Ψ) : DB X J env sts Φ Ψ := fun G0 H0 σ H G Dn s q r => by
  obtain ⟨G', s'⟩ := s.showL ho
  exact h G0 H0 σ H G' Dn s' q r
/-- a, b, .. = e, e a list of data -/
theorem ds_unpL {ds : List D} (is : List Nat) {ts : List Expr} {kt : _} {pt : Pos} (h : DE X J env e (.lst ds)) (hl : ds.length = is.length) (k : Φ (setAll env is ds)) (hg : PG X (.Tuple ts kt pt) (gLst X.K is.length (gNames is)))
    (hs : swapsWithSole [.Tuple ts kt pt] e pos.line X.env = pure false := by rfl) (hw : swappedStores [.Tuple ts kt pt] e X.env = pure none := by rfl) (h1 : (assignEach [.Tuple ts kt pt] X.env).map (·.2) = [assign (.Tuple ts kt pt) X.env] := by rfl) : DS X J env (.Assign [.Tuple ts kt pt] e pos) Φ Ψ := fun G0 H0 σ H G Dn s q r =>
  wpS_of (ps_asg pe_wp hg hs hw h1) (h G0 H0 σ H G _ s fun v d G1 H1 u i p => by
    subst p
    obtain ⟨a, xs, rfl, ha, al⟩ := i.lst_inv
    exact ⟨a, xs, rfl, .inl (.inl (u.gh _ _ ha)), by rw [al.len, hl], names_run is ds xs env σ _ (s.ext u) al hl fun σ' _ s' => q _ _ _ _ k s'⟩)
end
end Sh
/-! C0: own things of any shape, changed; fields of an own instance. -/
namespace Sh
open PySem PySem.Spec PyProof.Rows L2
open En (enc)
def rmv (H : Hp) (as : List Addr) : Hp := fun a => if a ∈ as then none else H a
theorem rmv_out {H : Hp} {as : List Addr} {a : Addr} (h : a ∉ as) : rmv H as a = H a := if_neg h
theorem rmv_in {H : Hp} {as : List Addr} {a : Addr} (h : a ∈ as) : rmv H as a = none := if_pos h
theorem rmv_some {H : Hp} {as : List Addr} {a : Addr} {o : HO} (h : rmv H as a = some o) : a ∉ as ∧ H a = some o := by
  by_cases z : a ∈ as
  · rw [rmv_in z] at h; cases h
  · rw [rmv_out z] at h; exact ⟨z, h⟩
section
variable {K : PySem.W.Frag} {J : Jn} {G0 H0 G H G1 H1 : Hp} {env : List SL} {σ : L2.St}
/-- the thing at slot i, changed by another's hand -/
theorem StG.mutO (s : StG K J G0 H0 env σ H G) {i : Nat} {w : OW} (e : env[i]? = some (.own w)) : ∃ p as, σ[i]? = some (some (.ref p)) ∧ OwOk K G H p as w ∧ (∀ x ∈ as, G x = none) ∧
    ∀ (G1 H1 : Hp) (w' : OW), Up J0 G (rmv H as) G1 H1 → OwOk K G1 H1 p as w' → (∀ x ∈ as, G1 x = none) → StG K J G0 H0 (env.set i (.own w')) σ H1 G1 := by
  obtain ⟨ad, h1, h2, h3⟩ := s.sl
  obtain ⟨p, e2, r, f⟩ := h1 i _ e
  refine ⟨p, ad i, e2, r, fun x hx => (f x hx).2, fun G1 H1 w' u r' f' => ?_⟩
  have hi : i < env.length := (List.getElem?_eq_some_iff.mp e).1
  have out : ∀ a, H0 a ≠ none → a ∉ ad i := fun a n ha => n (f a ha).1
  have keep : ∀ a o, a ∉ ad i → H a = some o → H1 a = some o := fun a o n q => u.h a o (fun z => z) (by rw [rmv_out n]; exact q)
  refine ⟨⟨s.up.g.trans u.g, u.gh, fun a o m q => ?_, fun a n => ?_, fun a n n2 => ?_, J.st _ _ s.up.inv fun a m => ?_⟩, s.al0, by rw [List.length_set]; exact s.len, ad, fun j sl q => ?_, h2, fun j hj => h3 j (by rw [List.length_set] at hj; exact hj)⟩
  · exact keep a o (out a (by rw [q]; simp)) (s.up.h a o m q)
  · exact u.fr a (by rw [rmv_out (out a n)]; exact s.up.fr a n)
  · exact u.hid a (s.up.hid a n n2) (by rw [rmv_out (out a n2)]; exact s.up.fr a n2)
  · have n0 := (s.al0 a m).1
    cases q : H a with
    | none => exact absurd q (s.up.fr a n0)
    | some o => exact keep a o (out a n0) q
  · by_cases z : j = i
    · subst z
      rw [List.getElem?_set_self hi] at q
      cases q
      exact ⟨p, e2, r', fun a ha => ⟨(f a ha).1, f' a ha⟩⟩
    · rw [List.getElem?_set_ne (Ne.symm z)] at q
      have y := h1 j sl q
      cases sl with
      | no => exact y
      | d x => obtain ⟨y1, v, y2, r⟩ := y; exact ⟨y1, v, y2, r.mono u.g⟩
      | own w2 =>
        obtain ⟨p2, e3, r3, f3⟩ := y
        have nd : ∀ a ∈ ad j, a ∉ ad i := fun a ha hb => h2 j i a z ha hb
        refine ⟨p2, e3, r3.ext u.g fun a ha o ho => keep a o (nd a ha) ho, fun a ha => ⟨(f3 a ha).1, u.hid a (f3 a ha).2 ?_⟩⟩
        rw [rmv_out (nd a ha)]
        exact r3.live a ha
/-- one of its objects is written -/
theorem up_own {as : List Addr} (b : Bs J0 G H) (f : ∀ x ∈ as, G x = none) {p : Addr} (hp : p ∈ as) (o : HO) : Up J0 G (rmv H as) G (upd H p o) := by
  have np : ∀ a u, G a = some u → a ≠ p := fun a u e z => by rw [z, f p hp] at e; cases e
  refine ⟨Same.refl G, fun a u e => ?_, fun a u _ e => ?_, fun a e => ?_, fun a e _ => e, trivial⟩
  · rw [upd_ne (np a u e)]; exact b.gh a u e
  · obtain ⟨n, e⟩ := rmv_some e
    rw [upd_ne fun z => n (by rw [z]; exact hp)]; exact e
  · by_cases z : a = p
    · rw [z, upd_same]; simp
    · rw [upd_ne z]
      by_cases y : a ∈ as
      · rw [rmv_in y] at e; exact absurd rfl e
      · rw [rmv_out y] at e; exact e
theorem bs_rmv {as : List Addr} (b : Bs J0 G H) (f : ∀ x ∈ as, G x = none) : Bs J0 G (rmv H as) :=
  ⟨fun a o e => by rw [rmv_out fun z => by rw [f a z] at e; cases e]; exact b.gh a o e, trivial, fun _ m => m.elim⟩
theorem up_rmv {as : List Addr} (b : Bs J0 G H) (f : ∀ x ∈ as, G x = none) : Up J0 G (rmv H as) G H :=
  ⟨Same.refl G, b.gh, fun a o _ e => (rmv_some e).2, fun a e => by
    by_cases y : a ∈ as
    · rw [rmv_in y] at e; exact absurd rfl e
    · rw [rmv_out y] at e; exact e, fun a e _ => e, trivial⟩
/-- a def that is handed an own thing first -/
theorem st_startO {N : List Str} {p : Addr} {as : List Addr} {w : OW} {vs : List V} {ds : List D} (b : Bs J0 G H) (r : OwOk K G H p as w) (f : ∀ x ∈ as, G x = none) (al : IsAll K G vs ds) (hN : 1 + ds.length ≤ N.length) :
    StG K J0 G (rmv H as) (.own w :: (ds.map .d ++ List.replicate (N.length - (1 + ds.length)) .no)) (L2.start N (.ref p :: vs)) H G := by
  refine ⟨up_rmv b f, fun _ m => m.elim, ?_, fun i => if i = 0 then as else [], fun i s e => ?_, fun i j a n m1 m2 => ?_, fun i hi => ?_⟩
  · unfold L2.start
    simp only [List.length_append, List.length_map, List.length_replicate, List.length_cons, al.len]
    omega
  · cases i with
    | zero =>
      have e' : s = .own w := by simpa using e.symm
      subst e'
      exact ⟨p, rfl, r, fun a ha => ⟨rmv_in ha, f a ha⟩⟩
    | succ i =>
      rw [List.getElem?_cons_succ] at e
      have el : N.length - (1 + ds.length) = N.length - (vs.length + 1) := by rw [al.len, Nat.add_comm]
      rcases isAll_start al (N.length - (1 + ds.length)) i s e with ⟨v, d, rfl, h2, h3⟩ | rfl
      · refine ⟨rfl, v, ?_, h3⟩
        unfold L2.start
        rw [List.map_cons, List.cons_append, List.getElem?_cons_succ, List.length_cons, ← el]
        exact h2
      · rfl
  · by_cases z : i = 0
    · subst z
      have m2' : a ∈ (if j = 0 then as else []) := m2
      rw [if_neg fun y => n y.symm] at m2'; cases m2'
    · have m1' : a ∈ (if i = 0 then as else []) := m1
      rw [if_neg z] at m1'; cases m1'
  · have : i ≠ 0 := fun z => by rw [z] at hi; simp at hi
    exact if_neg this
end
section
variable {X : Cx} {J : Jn} {env : List SL} {e : Expr} {P : D → Prop} {Φ : List SL → Prop} {Ψ : D → Prop} {pos npos : Pos}
/-- own.f -/
theorem de_fget {i : Nat} {n f : Str} {bs : List Addr} {ds : List D} {mk : List V → List HO} {d : D} {C : Addr} (ho : env[i]? = some (.own (.gen bs ds mk))) (cl : Cls X.K C) (nf : NoAttr X.K C f) (h : ∀ vs G, IsAll X.K G vs ds → ∃ dx fs v, (mk vs)[0]? = some (.ins C dx fs) ∧ fs.lookup f = some v ∧ Is X.K G v d)
    (hN : X.N[i]? = some n := by rfl) (hv : Vis X.env.scope n := by first | exact Or.inl rfl | exact Or.inr (Or.inl rfl) | exact Or.inr (Or.inr rfl)) (hd : (n == ("__debug__" : Str)) = false := by decide) (hcd : (n == ("__classdict__" : Str)) = false := by decide) (hb : attributeBase (.Name n npos) f X.env (eval (.Name n npos) X.env) = eval (.Name n npos) X.env := by rfl) :
    DE X J env (.Attribute (.Name n npos) f pos) d := fun G0 H0 σ H G Q s q => by
  refine wp_of (pe_fld (pe_var hN hv hd hcd) hb) ?_
  obtain ⟨p, as, e2, ⟨ea, hp, vs, al, ob⟩, _⟩ := s.mutO ho
  have b0 : bs[0]? = some p := by rw [← List.head?_eq_getElem?]; exact hp
  obtain ⟨o, o1, o2, _⟩ := ob 0 p b0
  obtain ⟨dx, fs, v, m1, m2, m3⟩ := h vs G al
  rw [m1] at o1
  cases o1
  exact ⟨.ref p, e2, p, C, dx, fs, v, rfl, o2, cl, nf, m2, q v d G H (Up.refl s.bs) m3 rfl⟩
/-- own.f = e -/
theorem ds_fset {i : Nat} {n f : Str} {bs : List Addr} {ds : List D} {mk mk' : List V → List HO} {ds' : D → List D} {C : Addr} {opos : Pos} (ho : env[i]? = some (.own (.gen bs ds mk))) (he : EP' X J env e P) (cl : Cls X.K C) (nf : NoAttr X.K C f) (nd : bs.Nodup)
    (h : ∀ vs G v d, IsAll X.K G vs ds → Is X.K G v d → P d → ∃ dx fs vs', (mk vs)[0]? = some (.ins C dx fs) ∧ fs.length < 1000 ∧ IsAll X.K G vs' (ds' d) ∧ (mk' vs')[0]? = some (.ins C dx (putF f v fs)) ∧ ∀ j, j ≠ 0 → (mk' vs')[j]? = (mk vs)[j]?)
    (k : ∀ d, P d → Φ (env.set i (.own (.gen bs (ds' d) mk')))) (hN : X.N[i]? = some n := by rfl) (hv : Vis X.env.scope n := by first | exact Or.inl rfl | exact Or.inr (Or.inl rfl) | exact Or.inr (Or.inr rfl)) (hd : (n == ("__debug__" : Str)) = false := by decide) (hcd : (n == ("__classdict__" : Str)) = false := by decide)
    (hs : swapsWith e (some (.Attribute (.Name n npos) f opos)) pos.line X.env = pure false := by rfl) : DS X J env (.Assign [.Attribute (.Name n npos) f opos] e pos) Φ Ψ := fun G0 H0 σ H G Dn s q r => by
  refine wpS_of (ps_fld (pe_var hN hv hd hcd) pe_wp hs) ?_
  refine he G0 H0 σ H G _ s fun v d G1 H1 u i1 pd => ?_
  have s1 := s.ext u
  obtain ⟨p, as, e2, ⟨ea, hp, vs, al, ob⟩, f0, mu⟩ := s1.mutO ho
  have b0 : bs[0]? = some p := by rw [← List.head?_eq_getElem?]; exact hp
  obtain ⟨o, o1, o2, _⟩ := ob 0 p b0
  obtain ⟨dx, fs, vs', m1, m2, m3, m4, m5⟩ := h vs G1 v d al i1 pd
  rw [m1] at o1
  cases o1
  refine ⟨.ref p, e2, p, C, dx, fs, rfl, o2, cl, nf, m2, ?_⟩
  have pm : p ∈ as := by rw [ea]; exact List.mem_of_getElem? b0
  refine q _ _ _ _ (k d pd) (mu G1 _ (.gen bs (ds' d) mk') (up_own s1.bs.zero f0 pm _) ⟨ea, hp, vs', m3, fun j a ha => ?_⟩ f0)
  by_cases z : j = 0
  · subst z
    rw [b0] at ha
    cases ha
    exact ⟨_, m4, upd_same, ⟨fun xs z => (by cases z), fun o xs z => (by cases z)⟩⟩
  · obtain ⟨o, y1, y2, y3⟩ := ob j a ha
    refine ⟨o, by rw [m5 j z]; exact y1, ?_, y3⟩
    have ne : a ≠ p := fun y => by
      rw [y] at ha
      have j1 := (List.getElem?_eq_some_iff.mp ha)
      have j2 := (List.getElem?_eq_some_iff.mp b0)
      obtain ⟨l1, g1⟩ := j1
      obtain ⟨l2, g2⟩ := j2
      exact z ((List.getElem_inj nd).mp (g1.trans g2.symm))
    rw [upd_ne ne]
    exact y2
end
end Sh
/-! C1: the class World. -/
namespace Sh
open PySem PySem.Spec PyProof.Rows L2
open En (enc)
/-- what is known of the class -/
structure WoT (K : PySem.W.Frag) (mg : Str → Option Value) (C : Addr) : Prop where
  mgC : mg "World" = some (.ref C)
  cl : Cls K C
  nS : NoAttr K C "setup"
  nT : NoAttr K C "state"
  nP : NoAttr K C "past"
  ini : ∃ f fd, Mk K C f ∧ Fun K "__init__" "World.__init__" (inClass (top 65) 0) f fd ∧ Binds K fd ["self", "supplies", "deals", "buyers"] []
  can : ∃ f fd, Meth K C "can" f ∧ Fun K "can" "World.can" (inClass (top 65) 3) f fd ∧ Binds K fd ["self"] []
  do_ : ∃ f fd, Meth K C "do" f ∧ Fun K "do" "World.do" (inClass (top 65) 4) f fd ∧ Binds K fd ["self", "event"] []
def fsW (v0 v1 : V) (pa : Addr) : List (Str × V) := [("setup", v0), ("state", v1), ("past", .ref pa)]
def wO (C a dx pa : Addr) : List V → List HO
  | v0 :: v1 :: ps => [.ins C dx (fsW v0 v1 pa), .own a, .lst ps]
  | _ => []
abbrev wG (C a dx pa : Addr) (S : Setup) (st : State) (es : List D) : OW := .gen [a, dx, pa] (enc S :: enc st :: es) (wO C a dx pa)
theorem fsW_setup (v0 v1 : V) (pa : Addr) : (fsW v0 v1 pa).lookup ("setup" : Str) = some v0 := rfl
theorem fsW_state (v0 v1 : V) (pa : Addr) : (fsW v0 v1 pa).lookup ("state" : Str) = some v1 := rfl
theorem fsW_past (v0 v1 : V) (pa : Addr) : (fsW v0 v1 pa).lookup ("past" : Str) = some (.ref pa) := rfl
theorem put_state (v0 v1 v : V) (pa : Addr) : putF "state" v (fsW v0 v1 pa) = fsW v0 v pa := by
  unfold fsW
  show (if ("setup" : Str) = "state" then _ else (("setup" : Str), v0) :: (if ("state" : Str) = "state" then (("state" : Str), v) :: [(("past" : Str), V.ref pa)] else _)) = _
  rw [if_neg (by decide), if_pos rfl]
theorem two_of {K : PySem.W.Frag} {G : Hp} {vs : List V} {d1 d2 : D} {ds : List D} (h : IsAll K G vs (d1 :: d2 :: ds)) : ∃ v0 v1 ps, vs = v0 :: v1 :: ps ∧ Is K G v0 d1 ∧ Is K G v1 d2 ∧ IsAll K G ps ds := by
  cases h with
  | cons r1 t => cases t with
    | cons r2 t => exact ⟨_, _, _, rfl, r1, r2, t⟩
/-- a World that stands -/
theorem ow_world {K : PySem.W.Frag} {G H : Hp} {p C a dx pa : Addr} {as : List Addr} {S : Setup} {st : State} {es : List D} (h : OwOk K G H p as (wG C a dx pa S st es)) : p = a ∧ as = [a, dx, pa] ∧ ∃ v0 v1 ps, Is K G v0 (enc S) ∧ Is K G v1 (enc st) ∧ IsAll K G ps es ∧ H a = some (.ins C dx (fsW v0 v1 pa)) ∧ H dx = some (.own a) ∧ H pa = some (.lst ps) := by
  obtain ⟨ea, hp, vs, al, ob⟩ := h
  obtain ⟨v0, v1, ps, rfl, r0, r1, r2⟩ := two_of al
  obtain ⟨o0, m0, h0, _⟩ := ob 0 a rfl
  obtain ⟨o1, m1, h1, _⟩ := ob 1 dx rfl
  obtain ⟨o2, m2, h2, _⟩ := ob 2 pa rfl
  cases m0; cases m1; cases m2
  have hp' : some a = some p := hp
  exact ⟨(Option.some.inj hp').symm, ea, v0, v1, ps, r0, r1, r2, h0, h1, h2⟩
theorem world_ow {K : PySem.W.Frag} {G H : Hp} {C a dx pa : Addr} {S : Setup} {st : State} {es : List D} {v0 v1 : V} {ps : List V} (r0 : Is K G v0 (enc S)) (r1 : Is K G v1 (enc st)) (r2 : IsAll K G ps es) (h0 : H a = some (.ins C dx (fsW v0 v1 pa))) (h1 : H dx = some (.own a)) (h2 : H pa = some (.lst ps)) : OwOk K G H a [a, dx, pa] (wG C a dx pa S st es) := by
  refine ⟨rfl, rfl, v0 :: v1 :: ps, .cons r0 (.cons r1 r2), fun j b hb => ?_⟩
  match j, hb with
  | 0, hb => cases hb; exact ⟨_, rfl, h0, ⟨fun xs z => (by cases z), fun o xs z => (by cases z)⟩⟩
  | 1, hb => cases hb; exact ⟨_, rfl, h1, ⟨fun xs z => (by cases z), fun o xs z => (by cases z)⟩⟩
  | 2, hb => cases hb; exact ⟨_, rfl, h2, lk_lst⟩
  | n + 3, hb => simp at hb
theorem world_nd {H : Hp} {C a dx pa : Addr} {fs : List (Str × V)} {ps : List V} (h0 : H a = some (.ins C dx fs)) (h1 : H dx = some (.own a)) (h2 : H pa = some (.lst ps)) : [a, dx, pa].Nodup := by
  have n1 : a ≠ dx := fun z => by rw [z, h1] at h0; cases h0
  have n2 : a ≠ pa := fun z => by rw [z, h2] at h0; cases h0
  have n3 : dx ≠ pa := fun z => by rw [z, h2] at h1; cases h1
  simp [n1, n2, n3]
section
variable {X : Cx} {J : Jn} {env : List SL} {pos npos : Pos} {C a dx pa : Addr} {S : Setup} {st : State} {es : List D}
theorem de_wsetup (O : WoT X.K X.mg C) {i : Nat} {n : Str} (ho : env[i]? = some (.own (wG C a dx pa S st es))) (hN : X.N[i]? = some n := by rfl) (hv : Vis X.env.scope n := by first | exact Or.inl rfl | exact Or.inr (Or.inl rfl) | exact Or.inr (Or.inr rfl)) (hd : (n == ("__debug__" : Str)) = false := by decide) (hcd : (n == ("__classdict__" : Str)) = false := by decide) (hb : attributeBase (.Name n npos) "setup" X.env (eval (.Name n npos) X.env) = eval (.Name n npos) X.env := by rfl) : DE X J env (.Attribute (.Name n npos) "setup" pos) (enc S) :=
  de_fget ho O.cl O.nS (fun vs G al => by
    obtain ⟨v0, v1, ps, rfl, r0, r1, r2⟩ := two_of al
    exact ⟨dx, _, v0, rfl, fsW_setup _ _ _, r0⟩) hN hv hd hcd hb
theorem de_wstate (O : WoT X.K X.mg C) {i : Nat} {n : Str} (ho : env[i]? = some (.own (wG C a dx pa S st es))) (hN : X.N[i]? = some n := by rfl) (hv : Vis X.env.scope n := by first | exact Or.inl rfl | exact Or.inr (Or.inl rfl) | exact Or.inr (Or.inr rfl)) (hd : (n == ("__debug__" : Str)) = false := by decide) (hcd : (n == ("__classdict__" : Str)) = false := by decide) (hb : attributeBase (.Name n npos) "state" X.env (eval (.Name n npos) X.env) = eval (.Name n npos) X.env := by rfl) : DE X J env (.Attribute (.Name n npos) "state" pos) (enc st) :=
  de_fget ho O.cl O.nT (fun vs G al => by
    obtain ⟨v0, v1, ps, rfl, r0, r1, r2⟩ := two_of al
    exact ⟨dx, _, v1, rfl, fsW_state _ _ _, r1⟩) hN hv hd hcd hb
end
/-! ### can, audit: they read -/
def spRead (K : PySem.W.Frag) (C : Addr) (Pre : Setup → State → Prop) (res : Setup → State → D) : Sp := fun vs H Q _ => ∃ (G : Hp) (p : Addr) (as : List Addr) (a dx pa : Addr) (S : Setup) (st : State) (es : List D), vs = [.ref p] ∧ OwOk K G H p as (wG C a dx pa S st es) ∧ Bs J0 G H ∧ (∀ x ∈ as, G x = none) ∧ Pre S st ∧
  ∀ v G1 H1, Up J0 G H G1 H1 → Is K G1 v (res S st) → Q v H1
section
variable {P : Program} {w : World} {K : PySem.W.Frag} {mg : Str → Option Value} {base : Heap} {C : Addr}
theorem sc_can : FnScope ["self"] ["self"] (defScope (inClass (top 65) 3)) := ⟨rfl, rfl, rfl, by decide +kernel, rfl, by decide +kernel, by decide +kernel⟩
theorem ok_can (T : Txt K mg) (O : WoT K mg C) {f : Addr} {fd : FuncData} (F : Fun K "can" "World.can" (inClass (top 65) 3) f fd) : FnOk P w K mg base CX0 3 f fd ["self"] (spRead K C (fun S st => SW S ∧ st.2.2.2.2.length < 64) (fun S st => .lst ((eventsOf S st).map encE))) := by
  refine F.ok sc_can (fun vs H Q E hs => ?_) (fun cdv A outer s0 H vs Q E hr hs => ⟨wpB _ (defBody (inClass (top 65) 3)), pss_wp, ?_⟩)
  · obtain ⟨G, p, as, a, dx, pa, S, st, es, rfl, _⟩ := hs; rfl
  obtain ⟨G, p, as, a, dx, pa, S, st, es, rfl, r, b, f0, ⟨wf, hl⟩, q⟩ := hs
  have s := st_startO (N := ["self"]) (vs := []) (ds := []) b r f0 .nil (by decide)
  refine wpB_of (pss_one (ps_ret pe_wp)) ?_
  exact (c_events_of (env := [.own (wG C a dx pa S st es)]) T (hr.mono (by decide)) (de_wsetup O (i := 0) rfl) (de_wstate O (i := 0) rfl) wf hl) G _ _ H G _ s fun v d G1 H1 u i e => by subst e; exact q v G1 H1 u i
end
end Sh
/-! C2: World's other defs; what law writes of a World. -/
namespace Sh
open PySem PySem.Spec PyProof.Rows L2
open En (enc)
section
variable {X : Cx} {J : Jn} {env : List SL} {e e1 e2 e3 : Expr} {Φ : List SL → Prop} {Ψ : D → Prop} {pos npos ppos apos cpos : Pos} {C a dx pa : Addr} {S : Setup} {st : State} {es : List D} {d : D}
/-- self.past.append(e) -/
theorem ds_past (O : WoT X.K X.mg C) {i : Nat} {n : Str} (ho : env[i]? = some (.own (wG C a dx pa S st es))) (he : DE X J env e d) (hz : es.length < 1000) (k : Φ (env.set i (.own (wG C a dx pa S st (es ++ [d]))))) (hN : X.N[i]? = some n := by rfl) (hv : Vis X.env.scope n := by first | exact Or.inl rfl | exact Or.inr (Or.inl rfl) | exact Or.inr (Or.inr rfl))
    (hd : (n == ("__debug__" : Str)) = false := by decide) (hcd : (n == ("__classdict__" : Str)) = false := by decide) (hb0 : attributeBase (.Name n npos) "past" X.env (eval (.Name n npos) X.env) = eval (.Name n npos) X.env := by rfl)
    (hbase : attributeBase (.Attribute (.Name n npos) "past" ppos) "append" X.env (eval (.Attribute (.Name n npos) "past" ppos) X.env) = eval (.Attribute (.Name n npos) "past" ppos) X.env := by rfl)
    (hfew : ((backTo cpos (starEach [e] X.env)).all (fun x => !x.1) && (backToKw cpos (keywordEach [] X.env)).all (fun x => x.1.isSome) && decide ([e].length + ([] : List Keyword).length + (if ([] : List Keyword).isEmpty then 0 else 1) < 30)) = true := by rfl)
    (hline : (apos.endLine == cpos.line) = true := by rfl) (hs : starEach [e] X.env = (false, eval e X.env) :: starEach [] X.env := by rfl) (hplain : (backTo cpos (starEach [] X.env)).any (·.1) = false := by rfl)
    (hsw : swapsWith (.Call (.Attribute (.Attribute (.Name n npos) "past" ppos) "append" apos) [e] [] cpos) none pos.line X.env = pure false := by rfl) : DS X J env (.Expr (.Call (.Attribute (.Attribute (.Name n npos) "past" ppos) "append" apos) [e] [] cpos) pos) Φ Ψ := fun G0 H0 σ H G Dn s q r => by
  refine wpS_of (ps_expr (pe_bm PySem.F.plainAttrs_list PySem.F.slot_list_append PySem.F.type_list_append mt_append (pe_fld (pe_var hN hv hd hcd) hb0) (pa_cons pe_wp pa_nil (by exact hs)) hbase hfew hline hs hplain) hsw) ?_
  obtain ⟨p, as, e2, r0, _, _⟩ := s.mutO ho
  obtain ⟨rfl, rfl, v0, v1, ps, _, _, _, h0, h1, h2⟩ := ow_world r0
  refine ⟨.ref p, e2, p, C, dx, _, .ref pa, rfl, h0, O.cl, O.nP, fsW_past _ _ _, ?_⟩
  refine ⟨.inl ⟨rfl, ps, .inl (.inl h2)⟩, ?_⟩
  refine he G0 H0 σ H G _ s fun v d' G1 H1 u i1 ed => ?_
  subst ed
  have s1 := s.ext u
  obtain ⟨p', as', e2', r1, f1, mu⟩ := s1.mutO ho
  rw [e2] at e2'
  cases e2'
  obtain ⟨_, rfl, w0, w1, qs, y0, y1, y2, g0, g1, g2⟩ := ow_world r1
  refine ⟨pa, qs, v, rfl, rfl, g2, small (m := 1000) (by rw [y2.len]; exact Nat.le_of_lt hz), ?_⟩
  have nd := world_nd g0 g1 g2
  have n1 : p ≠ pa := fun z => by rw [z, g2] at g0; cases g0
  have n2 : dx ≠ pa := fun z => by rw [z, g2] at g1; cases g1
  exact q _ _ _ _ k (mu G1 _ _ (up_own s1.bs.zero f1 (by simp) _) (world_ow y0 y1 (y2.append (.cons i1 .nil)) (by rw [upd_ne n1]; exact g0) (by rw [upd_ne n2]; exact g1) upd_same) f1)
end
/-! ### do -/
def spDo (K : PySem.W.Frag) (C : Addr) : Sp := fun vs H Q _ => ∃ (G : Hp) (p : Addr) (as : List Addr) (a dx pa : Addr) (S : Setup) (st : State) (es : List D) (ev : Ev) (v : V), vs = [.ref p, v] ∧ OwOk K G H p as (wG C a dx pa S st es) ∧ Bs J0 G H ∧ (∀ x ∈ as, G x = none) ∧ Is K G v (encE ev) ∧ SW S ∧ Bd S st ∧ EvOk S st ev ∧ es.length < 1000 ∧
  ∀ st' G1 H1, StepRel S st ev st' → Up J0 G (rmv H as) G1 H1 → OwOk K G1 H1 p as (wG C a dx pa S st' (es ++ [encE ev])) → (∀ x ∈ as, G1 x = none) → Q .non H1
section
variable {P : Program} {w : World} {K : PySem.W.Frag} {mg : Str → Option Value} {base : Heap} {C : Addr}
theorem sc_do : FnScope ["self", "event"] ["self", "event"] (defScope (inClass (top 65) 4)) := ⟨rfl, rfl, rfl, by decide +kernel, rfl, by decide +kernel, by decide +kernel⟩
theorem ok_do (T : TxW K mg w) (O : WoT K mg C) {f : Addr} {fd : FuncData} (F : Fun K "do" "World.do" (inClass (top 65) 4) f fd) : FnOk P w K mg base CX0 11 f fd ["self", "event"] (spDo K C) := by
  refine F.ok sc_do (fun vs H Q E hs => ?_) (fun cdv A outer s0 H vs Q E hr hs => ⟨wpB _ (defBody (inClass (top 65) 4)), pss_wp, ?_⟩)
  · obtain ⟨G, p, as, a, dx, pa, S, st, es, ev, v, rfl, _⟩ := hs; rfl
  obtain ⟨G, p, as, a, dx, pa, S, st, es, ev, v, rfl, r, b, f0, i0, wf, bd, ok, hz, q⟩ := hs
  have s := st_startO (N := ["self", "event"]) (vs := [v]) (ds := [encE ev]) b r f0 (.cons i0 .nil) (Nat.le_refl 2)
  obtain ⟨ep, ea, v0, v1, ps, y0, y1, y2, g0, g1, g2⟩ := ow_world r
  have nd := world_nd g0 g1 g2
  have hb : DB (bodyX P w K mg base ["self", "event"] "World.do" (inClass (top 65) 4) f cdv A outer s0 H E) J0 [.own (wG C a dx pa S st es), .d (encE ev)] (defBody (inClass (top 65) 4)) (fun env => ∃ st', StepRel S st ev st' ∧ env = [.own (wG C a dx pa S st' (es ++ [encE ev])), .d (encE ev)]) (fun _ => False) := by
    refine db_cons (ds_if (b := false) (dt_not (c1 := true) (dt_val (c_is_event T.t (hr.mono (by decide)) (y := ev) (de_wsetup O (i := 0) rfl) (de_var (i := 1) rfl) wf (fun w e => by subst e; exact ok)))) (fun h => absurd h (by decide)) (fun _ => ?_))
    refine db_nil ?_
    refine db_consM (ds_fset (i := 0) (ds := enc S :: enc st :: es) (ds' := fun d => enc S :: d :: es) (mk := wO C a dx pa) (mk' := wO C a dx pa) (P := fun q => ∃ st', StepRel S st ev st' ∧ q = enc st') (Φ := fun env => ∃ st', StepRel S st ev st' ∧ env = [.own (wG C a dx pa S st' es), .d (encE ev)]) rfl (c_step T (hr.mono (by decide)) (z := ev) (de_wsetup O (i := 0) rfl) (de_wstate O (i := 0) rfl) (de_var (i := 1) rfl) wf bd ok) O.cl O.nT nd ?_ ?_) ?_
    · intro vs G v d al i1 pd
      obtain ⟨v0, v1, ps, rfl, r0, r1, r2⟩ := two_of al
      refine ⟨dx, fsW v0 v1 pa, v0 :: v :: ps, rfl, show 3 < 1000 by decide, .cons r0 (.cons i1 r2), ?_, fun j hj => ?_⟩
      · rw [put_state]; rfl
      · cases j with
        | zero => exact absurd rfl hj
        | succ j => rfl
    · rintro d ⟨st', h1, rfl⟩
      exact ⟨st', h1, rfl⟩
    · rintro _ ⟨st', h1, rfl⟩
      exact db_cons (ds_past O (i := 0) rfl (de_var (i := 1) rfl) hz (db_nil ⟨st', h1, rfl⟩))
  refine hb G _ _ H G _ s (fun env' σ' H' G' ⟨st', h1, e1⟩ s' => ?_) (fun _ _ _ _ _ _ h => h.elim)
  subst e1
  obtain ⟨ad, k1, k2, k3⟩ := s'.sl
  obtain ⟨p', _, r', f'⟩ := k1 0 _ rfl
  obtain ⟨ep', ea', _⟩ := ow_world r'
  rw [ep', ea'] at r'
  rw [ea'] at f'
  have u' := s'.up
  rw [ep, ea] at q
  rw [ea] at u'
  exact q st' G' H' h1 u' r' fun x hx => (f' x hx).2
/-! ### audit -/
theorem sc_audit : FnScope ["world"] ["world"] (defScope (top 79)) := ⟨rfl, rfl, rfl, by decide +kernel, rfl, by decide +kernel, by decide +kernel⟩
theorem ok_audit (T : Txt K mg) (O : WoT K mg C) {f : Addr} {fd : FuncData} (F : Fun K "audit" "audit" (top 79) f fd) : FnOk P w K mg base CX0 6 f fd ["world"] (spRead K C (fun S st => SW S ∧ Ls S st) (fun S st => encL (faultsIn S st))) := by
  refine F.ok sc_audit (fun vs H Q E hs => ?_) (fun cdv A outer s0 H vs Q E hr hs => ⟨wpB _ (defBody (top 79)), pss_wp, ?_⟩)
  · obtain ⟨G, p, as, a, dx, pa, S, st, es, rfl, _⟩ := hs; rfl
  obtain ⟨G, p, as, a, dx, pa, S, st, es, rfl, r, b, f0, ⟨wf, ls⟩, q⟩ := hs
  have s := st_startO (N := ["world"]) (vs := []) (ds := []) b r f0 .nil (by decide)
  refine wpB_of (pss_one (ps_ret pe_wp)) ?_
  exact (c_faults_in (env := [.own (wG C a dx pa S st es)]) T (hr.mono (by decide)) (de_wsetup O (i := 0) rfl) (de_wstate O (i := 0) rfl) wf ls) G _ _ H G _ s fun v d G1 H1 u i e => by subst e; exact q v G1 H1 u i
end
end Sh
/-! C3: World is made; what law writes of it. -/
namespace Sh
open PySem PySem.Spec PyProof.Rows L2
open En (enc)
def mk0 (C a dx : Addr) : List V → List HO := fun _ => [.ins C dx [], .own a]
def mk1 (C a dx : Addr) : List V → List HO
  | v0 :: _ => [.ins C dx [("setup", v0)], .own a]
  | _ => []
def mk2 (C a dx : Addr) : List V → List HO
  | v0 :: v1 :: _ => [.ins C dx [("setup", v0), ("state", v1)], .own a]
  | _ => []
def mk3 (C a dx pa : Addr) : List V → List HO
  | v0 :: v1 :: _ => [.ins C dx (fsW v0 v1 pa), .own a]
  | _ => []
theorem put_s1 (v0 v1 : V) : putF "state" v1 [(("setup" : Str), v0)] = [(("setup" : Str), v0), (("state" : Str), v1)] := by
  have n : ¬ ("setup" : Str) = "state" := by decide
  unfold putF
  rw [if_neg n]
  rfl
theorem put_s2 (v0 v1 v : V) : putF "past" v [(("setup" : Str), v0), (("state" : Str), v1)] = [(("setup" : Str), v0), (("state" : Str), v1), (("past" : Str), v)] := by
  have n1 : ¬ ("setup" : Str) = "past" := by decide
  have n2 : ¬ ("state" : Str) = "past" := by decide
  unfold putF
  rw [if_neg n1]
  unfold putF
  rw [if_neg n2]
  rfl
section
variable {X : Cx} {J : Jn} {Φ : List SL → Prop} {Ψ : D → Prop} {pos npos opos lp : Pos} {C a dx : Addr} {S : Setup} {st : State} {d1 d2 d3 : D}
/-- self.past = [], the last of __init__ -/
theorem ds_pastNew (O : WoT X.K X.mg C) {n : Str} (k : ∀ pa, Φ [.own (wG C a dx pa S st []), .d d1, .d d2, .d d3]) (hN : X.N[0]? = some n := by rfl) (hv : Vis X.env.scope n := by first | exact Or.inl rfl | exact Or.inr (Or.inl rfl) | exact Or.inr (Or.inr rfl)) (hd : (n == ("__debug__" : Str)) = false := by decide) (hcd : (n == ("__classdict__" : Str)) = false := by decide)
    (hs : swapsWith (.List [] lp) (some (.Attribute (.Name n npos) "past" opos)) pos.line X.env = pure false := by rfl) : DS X J [.own (.gen [a, dx] [enc S, enc st] (mk2 C a dx)), .d d1, .d d2, .d d3] (.Assign [.Attribute (.Name n npos) "past" opos] (.List [] lp) pos) Φ Ψ := fun G0 H0 σ H G Dn s q r => by
  refine wpS_of (ps_fld (pe_var hN hv hd hcd) (pe_lst pa_nil) hs) ?_
  refine ⟨show 0 ≤ sizeLine from Nat.zero_le _, fun l hl => ?_⟩
  have s1 := s.ext (Up.newH s.bs (o := .lst []) hl)
  obtain ⟨p, as, e2, ⟨ea, hp, vs, al, ob⟩, f1, mu⟩ := s1.mutO (i := 0) rfl
  obtain ⟨v0, v1, ps, rfl, y0, y1, y2⟩ := two_of al
  obtain ⟨o0, m0, h0, _⟩ := ob 0 a rfl
  obtain ⟨o1, m1, h1, _⟩ := ob 1 dx rfl
  cases m0; cases m1
  have hp' : some a = some p := hp
  cases hp'
  subst ea
  have na : a ≠ l := fun z => by rw [z, upd_same] at h0; cases h0
  have nx : dx ≠ l := fun z => by rw [z, upd_same] at h1; cases h1
  have nd : a ≠ dx := fun z => by rw [z, h1] at h0; cases h0
  refine ⟨.ref a, e2, a, C, dx, _, rfl, h0, O.cl, O.nP, show 2 < 1000 by decide, ?_⟩
  rw [put_s2]
  have s2 := mu G _ (.gen [a, dx] [enc S, enc st] (mk3 C a dx l)) (up_own s1.bs.zero f1 (p := a) (by simp) (.ins C dx (fsW v0 v1 l))) ⟨rfl, rfl, v0 :: v1 :: ps, al, fun j b hb => by
    match j, hb with
    | 0, hb => cases hb; exact ⟨_, rfl, upd_same, ⟨fun xs z => (by cases z), fun o xs z => (by cases z)⟩⟩
    | 1, hb => cases hb; exact ⟨_, rfl, (upd_ne (Ne.symm nd)).trans h1, ⟨fun xs z => (by cases z), fun o xs z => (by cases z)⟩⟩
    | n + 2, hb => simp at hb⟩ f1
  obtain ⟨ad, k1, k2, k3⟩ := s.sl
  obtain ⟨p3, _, ⟨ea3, _⟩, f3⟩ := k1 0 _ rfl
  have l0 : H0 l = none := up_fresh0 s.up hl
  have lg : G l = none := s.bs.gh.free hl
  have s3 := s2.setS 0 (v := .ref a) (x := .own (wG C a dx l S st [])) (as := [a, dx, l]) ⟨a, rfl, world_ow y0 y1 .nil upd_same ((upd_ne (Ne.symm nd)).trans h1) ((upd_ne (Ne.symm na)).trans upd_same), fun x hx => ?_⟩ ?_
  · have e5 : σ.set 0 (some (.ref a)) = σ := set_same e2
    rw [e5] at s3
    exact q _ σ _ _ (k l) s3
  · simp only [List.mem_cons, List.not_mem_nil, or_false] at hx
    rcases hx with z | z | z
    · rw [z]; exact f3 a (by rw [ea3]; simp)
    · rw [z]; exact f3 dx (by rw [ea3]; simp)
    · rw [z]; exact ⟨l0, lg⟩
  · intro j sl as' hj e sk x _ hx
    have e6 : as' = [] := by
      match j, hj, e with
      | 0, hj, _ => exact absurd rfl hj
      | 1, _, e => cases e; exact sk.1
      | 2, _, e => cases e; exact sk.1
      | 3, _, e => cases e; exact sk.1
      | n + 4, _, e => simp at e
    rw [e6] at hx; cases hx
end
def spInit (K : PySem.W.Frag) (C : Addr) : Sp := fun vs H Q _ => ∃ (G : Hp) (a dx : Addr) (S : Setup) (v1 v2 v3 : V), vs = [.ref a, v1, v2, v3] ∧ H a = some (.ins C dx []) ∧ H dx = some (.own a) ∧ Bs J0 G H ∧ G a = none ∧ G dx = none ∧ IsAll K G [v1, v2, v3] [enc S.1, enc S.2.1, enc S.2.2] ∧ SV S ∧
  ∀ pa G2 H2, Up J0 G (rmv H [a, dx]) G2 H2 → OwOk K G2 H2 a [a, dx, pa] (wG C a dx pa S (firstState S) []) → (∀ x ∈ [a, dx, pa], rmv H [a, dx] x = none ∧ G2 x = none) → Q .non H2
section
variable {P : Program} {w : World} {K : PySem.W.Frag} {mg : Str → Option Value} {base : Heap} {C : Addr}
theorem sc_init : FnScope ["self", "supplies", "deals", "buyers"] ["self", "supplies", "deals", "buyers"] (defScope (inClass (top 65) 0)) := ⟨rfl, rfl, rfl, by decide +kernel, rfl, by decide +kernel, by decide +kernel⟩
theorem ok_init (T : Txt K mg) (O : WoT K mg C) {f : Addr} {fd : FuncData} (F : Fun K "__init__" "World.__init__" (inClass (top 65) 0) f fd) : FnOk P w K mg base CX0 4 f fd ["self", "supplies", "deals", "buyers"] (spInit K C) := by
  refine F.ok sc_init (fun vs H Q E hs => ?_) (fun cdv A outer s0 H vs Q E hr hs => ⟨wpB _ (defBody (inClass (top 65) 0)), pss_wp, ?_⟩)
  · obtain ⟨G, a, dx, S, v1, v2, v3, rfl, _⟩ := hs; rfl
  obtain ⟨G, a, dx, S, v1, v2, v3, rfl, h0, h1, b, ga, gd, al, sv, q⟩ := hs
  have wf : SW S := sv.toSW
  have ne : a ≠ dx := fun z => by rw [z, h1] at h0; cases h0
  have nd : [a, dx].Nodup := by simp [ne]
  have f0 : ∀ x ∈ [a, dx], G x = none := fun x hx => by
    rcases List.mem_cons.mp hx with z | z
    · rw [z]; exact ga
    · rw [List.mem_singleton.mp z]; exact gd
  have r : OwOk K G H a [a, dx] (.gen [a, dx] [] (mk0 C a dx)) := ⟨rfl, rfl, [], .nil, fun j b hb => by
    match j, hb with
    | 0, hb => cases hb; exact ⟨_, rfl, h0, ⟨fun xs z => (by cases z), fun o xs z => (by cases z)⟩⟩
    | 1, hb => cases hb; exact ⟨_, rfl, h1, ⟨fun xs z => (by cases z), fun o xs z => (by cases z)⟩⟩
    | n + 2, hb => simp at hb⟩
  have s := st_startO (N := ["self", "supplies", "deals", "buyers"]) (vs := [v1, v2, v3]) (ds := [enc S.1, enc S.2.1, enc S.2.2]) b r f0 al (Nat.le_refl 4)
  -- the first three statements
  have hb : DB (bodyX P w K mg base ["self", "supplies", "deals", "buyers"] "World.__init__" (inClass (top 65) 0) f cdv A outer s0 H E) J0 [.own (.gen [a, dx] [] (mk0 C a dx)), .d (enc S.1), .d (enc S.2.1), .d (enc S.2.2)] (defBody (inClass (top 65) 0)) (fun env => ∃ pa, env = [.own (wG C a dx pa S (firstState S) []), .d (enc S.1), .d (enc S.2.1), .d (enc S.2.2)]) (fun _ => False) := by
    refine db_cons (ds_expr (P := fun _ => True) ((c_need_setup T (hr.mono (by decide)) (x := S) (de_var (i := 1) rfl) (de_var (i := 2) rfl) (de_var (i := 3) rfl) sv).imp fun _ _ => trivial) ?_)
    refine db_consM (ds_fset (i := 0) (ds := []) (ds' := fun d => [d]) (mk := mk0 C a dx) (mk' := mk1 C a dx) (P := fun q => q = enc S) (Φ := fun env => env = [.own (.gen [a, dx] [enc S] (mk1 C a dx)), .d (enc S.1), .d (enc S.2.1), .d (enc S.2.2)]) rfl (de_tup (da_cons (de_var (i := 1) rfl) (da_cons (de_var (i := 2) rfl) (da_cons (de_var (i := 3) rfl) da_nil)))) O.cl O.nS nd ?_ ?_) ?_
    · intro vs G v d al i1 pd
      refine ⟨dx, [], [v], rfl, by decide, .cons i1 .nil, rfl, fun j hj => ?_⟩
      cases j with
      | zero => exact absurd rfl hj
      | succ j => rfl
    · rintro d rfl
      rfl
    rintro _ rfl
    refine db_consM (ds_fset (i := 0) (ds := [enc S]) (ds' := fun d => [enc S, d]) (mk := mk1 C a dx) (mk' := mk2 C a dx) (P := fun q => q = enc (firstState S)) (Φ := fun env => env = [.own (.gen [a, dx] [enc S, enc (firstState S)] (mk2 C a dx)), .d (enc S.1), .d (enc S.2.1), .d (enc S.2.2)]) rfl (c_first_state T (hr.mono (by decide)) (x := S) ?_ wf) O.cl O.nT nd ?_ ?_) ?_
    · exact de_fget (i := 0) rfl O.cl O.nS (fun vs G al => by
        cases al with
        | cons r0 t => exact ⟨dx, _, _, rfl, rfl, r0⟩)
    · intro vs G v d al i1 pd
      cases al with
      | cons r0 t =>
        cases t
        refine ⟨dx, _, [_, v], rfl, show 1 < 1000 by decide, .cons r0 (.cons i1 .nil), ?_, fun j hj => ?_⟩
        · rw [put_s1]; rfl
        · cases j with
          | zero => exact absurd rfl hj
          | succ j => rfl
    · rintro d rfl
      rfl
    rintro _ rfl
    exact db_cons (ds_pastNew O fun pa => db_nil ⟨pa, rfl⟩)
  refine hb G _ _ H G _ s (fun env' σ' H' G' ⟨pa, e1⟩ s' => ?_) (fun _ _ _ _ _ _ h => h.elim)
  subst e1
  obtain ⟨ad, k1, k2, k3⟩ := s'.sl
  obtain ⟨p', _, r', f'⟩ := k1 0 _ rfl
  obtain ⟨ep', ea', _⟩ := ow_world r'
  rw [ep', ea'] at r'
  rw [ea'] at f'
  exact q pa G' H' s'.up r' f'
end
/-! ### in law -/
section
variable {X : Cx} {J : Jn} {env : List SL} {e e1 e2 e3 : Expr} {Φ : List SL → Prop} {Ψ : D → Prop} {pos npos ppos apos cpos p : Pos} {C a dx pa : Addr} {S : Setup} {st : State} {es : List D} {d : D}
/-- World(supplies, deals, buyers) -/
theorem se_world (T : Txt X.K X.mg) (O : WoT X.K X.mg C) (hr : Room 5 X.A) (h1 : DE X J env e1 (enc S.1)) (h2 : DE X J env e2 (enc S.2.1)) (h3 : DE X J env e3 (enc S.2.2)) (sv : SV S) (hg : Gl X "World" := by rfl) (s0 : starEach [e1, e2, e3] X.env = (false, eval e1 X.env) :: starEach [e2, e3] X.env := by rfl) (s1 : starEach [e2, e3] X.env = (false, eval e2 X.env) :: starEach [e3] X.env := by rfl) (s2 : starEach [e3] X.env = (false, eval e3 X.env) :: starEach [] X.env := by rfl) (hpl : (backTo pos (starEach [e2, e3] X.env)).any (·.1) = false := by rfl) :
    SE' X J env (.Call (.Name "World" p) [e1, e2, e3] [] pos) (fun x => ∃ a dx pa, x = .own (wG C a dx pa S (firstState S) [])) := fun G0 H0 σ H G Q s q => by
  obtain ⟨f, fd, M, F, hb⟩ := O.ini
  refine wp_of (pe_make (E := E0) M (ok_init T O F) hr hg O.mgC hb .nil pass0 pa_wp (by decide) s0 hpl) ?_
  refine (da_cons h1 (da_cons h2 (da_cons h3 da_nil s2) s1) s0) G0 H0 σ H G _ s fun vs ds G1 H1 u al ed => ?_
  subst ed
  intro x dx hx hdx ne
  have s1 := s.ext u
  obtain ⟨v1, v2, v3, rfl, al'⟩ : ∃ v1 v2 v3, vs = [v1, v2, v3] ∧ IsAll X.K G1 [v1, v2, v3] [enc S.1, enc S.2.1, enc S.2.2] := by
    cases al with
    | cons r1 t => cases t with
      | cons r2 t => cases t with
        | cons r3 t => cases t; exact ⟨_, _, _, rfl, .cons r1 (.cons r2 (.cons r3 .nil))⟩
  have gx := s1.bs.gh.free hx
  have gdx := s1.bs.gh.free hdx
  have eH : rmv (upd (upd H1 dx (.own x)) x (.ins C dx [])) [x, dx] = H1 := by
    funext b
    by_cases z : b ∈ [x, dx]
    · rw [rmv_in z]
      rcases List.mem_cons.mp z with y | y
      · rw [y, hx]
      · rw [List.mem_singleton.mp y, hdx]
    · rw [rmv_out z]
      have n1 : b ≠ x := fun y => z (by rw [y]; simp)
      have n2 : b ≠ dx := fun y => z (by rw [y]; simp)
      rw [upd_ne n1, upd_ne n2]
  refine ⟨G1, x, dx, S, v1, v2, v3, rfl, upd_same, by rw [upd_ne ne, upd_same], ⟨fun b o e => ?_, trivial, fun _ m => m.elim⟩, gx, gdx, al', sv, fun pa G2 H2 u2 r2 f2 => ⟨rfl, ?_⟩⟩
  · have n1 : b ≠ x := fun y => by rw [y, gx] at e; cases e
    have n2 : b ≠ dx := fun y => by rw [y, gdx] at e; cases e
    rw [upd_ne n1, upd_ne n2]
    exact s1.bs.gh b o e
  · rw [eH] at u2 f2
    exact q (.ref x) (.own (wG C x dx pa S (firstState S) [])) [x, dx, pa] G2 H2 (u.trans (Up.ofZero s1.bs u2)) ⟨x, rfl, r2⟩ (fun b hb => ⟨up_hid u (f2 b hb).1, (f2 b hb).2⟩) ⟨x, dx, pa, rfl⟩
/-- world.can() -/
theorem de_can (T : Txt X.K X.mg) (O : WoT X.K X.mg C) (hr : Room 3 X.A) {i : Nat} {n : Str} {pl : Sem Bool} (ho : env[i]? = some (.own (wG C a dx pa S st es))) (wf : SW S) (hl : st.2.2.2.2.length < 64) (hN : X.N[i]? = some n := by rfl) (hv : Vis X.env.scope n := by first | exact Or.inl rfl | exact Or.inr (Or.inl rfl) | exact Or.inr (Or.inr rfl)) (hd : (n == ("__debug__" : Str)) = false := by decide) (hcd : (n == ("__classdict__" : Str)) = false := by decide)
    (ht : eval (.Call (.Attribute (.Name n npos) "can" apos) [] [] pos) X.env = (do
      let ov ← eval (.Name n npos) X.env
      standAt apos.atName
      let (f, first) ← holding [ov] (getMethod ov "can" pl)
      callWith pos f first (backTo pos (starEach [] X.env)) (backToKw pos (keywordEach [] X.env))) := by rfl) : DE X J env (.Call (.Attribute (.Name n npos) "can" apos) [] [] pos) (.lst ((eventsOf S st).map encE)) := fun G0 H0 σ H G Q s q => by
  obtain ⟨f, fd, M, F, hb⟩ := O.can
  refine wp_of (pe_meth0 (E := E0) (pe_var hN hv hd hcd) O.cl M (ok_can T O F) hr hb .nil pass0 ht) ?_
  obtain ⟨p, as, e2, r0, f0, _⟩ := s.mutO ho
  obtain ⟨ep, ea, v0, v1, ps, _, _, _, h0, h1, h2⟩ := ow_world r0
  subst ep
  refine ⟨.ref p, e2, p, dx, _, rfl, h0, rfl, ?_⟩
  exact ⟨G, p, as, p, dx, pa, S, st, es, rfl, r0, s.bs.zero, f0, ⟨wf, hl⟩, fun v G1 H1 u i => q v _ G1 H1 (Up.ofZero s.bs u) i rfl⟩
/-- audit(world) -/
theorem de_audit (T : Txt X.K X.mg) (O : WoT X.K X.mg C) (hr : Room 6 X.A) {i : Nat} {n : Str} (ho : env[i]? = some (.own (wG C a dx pa S st es))) (wf : SW S) (ls : Ls S st) (hN : X.N[i]? = some n := by rfl) (hv : Vis X.env.scope n := by first | exact Or.inl rfl | exact Or.inr (Or.inl rfl) | exact Or.inr (Or.inr rfl)) (hd : (n == ("__debug__" : Str)) = false := by decide) (hcd : (n == ("__classdict__" : Str)) = false := by decide)
    (hg : Gl X "audit" := by rfl) (he : starEach [.Name n npos] X.env = (false, eval (.Name n npos) X.env) :: starEach [] X.env := by rfl) (hpl : (backTo pos (starEach [] X.env)).any (·.1) = false := by rfl) : DE X J env (.Call (.Name "audit" p) [.Name n npos] [] pos) (encL (faultsIn S st)) := fun G0 H0 σ H G Q s q => by
  obtain ⟨f, fd, F, hm, hb⟩ := T.d_audit.ex
  refine wp_of (pe_call (E := E0) (ok_audit T O F) hr hg hm F.kp hb .nil pass0 (pa_cons (pe_var hN hv hd hcd) pa_nil he) (by decide) he hpl) ?_
  obtain ⟨p, as, e2, r0, f0, _⟩ := s.mutO ho
  exact ⟨.ref p, e2, G, p, as, a, dx, pa, S, st, es, rfl, r0, s.bs.zero, f0, ⟨wf, ls⟩, fun v G1 H1 u i => q v _ G1 H1 (Up.ofZero s.bs u) i rfl⟩
/-- world.do(e) -/
theorem ds_do (T : TxW X.K X.mg X.w) (O : WoT X.K X.mg C) (hr : Room 11 X.A) {i : Nat} {n : Str} {pl : Sem Bool} (ho : env[i]? = some (.own (wG C a dx pa S st es))) (he : EP' X J env e (fun d => ∃ ev, d = encE ev ∧ EvOk S st ev)) (wf : SW S) (bd : Bd S st) (hz : es.length < 1000) (k : ∀ ev st', EvOk S st ev → StepRel S st ev st' → Φ (env.set i (.own (wG C a dx pa S st' (es ++ [encE ev]))))) (hN : X.N[i]? = some n := by rfl) (hv : Vis X.env.scope n := by first | exact Or.inl rfl | exact Or.inr (Or.inl rfl) | exact Or.inr (Or.inr rfl)) (hd : (n == ("__debug__" : Str)) = false := by decide) (hcd : (n == ("__classdict__" : Str)) = false := by decide)
    (hst : starEach [e] X.env = (false, eval e X.env) :: starEach [] X.env := by rfl) (hpl : (backTo cpos (starEach [] X.env)).any (·.1) = false := by rfl)
    (ht : eval (.Call (.Attribute (.Name n npos) "do" apos) [e] [] cpos) X.env = (do
      let ov ← eval (.Name n npos) X.env
      standAt apos.atName
      let (f, first) ← holding [ov] (getMethod ov "do" pl)
      callWith cpos f first (backTo cpos (starEach [e] X.env)) (backToKw cpos (keywordEach [] X.env))) := by rfl)
    (hsw : swapsWith (.Call (.Attribute (.Name n npos) "do" apos) [e] [] cpos) none pos.line X.env = pure false := by rfl) : DS X J env (.Expr (.Call (.Attribute (.Name n npos) "do" apos) [e] [] cpos) pos) Φ Ψ := fun G0 H0 σ H G Dn s q r => by
  obtain ⟨f, fd, M, F, hb⟩ := O.do_
  refine wpS_of (ps_expr (pe_meth (E := E0) (pe_var hN hv hd hcd) O.cl M (ok_do T O F) hr hb .nil pass0 (pa_cons pe_wp pa_nil (by exact hst)) hst hpl ht) hsw) ?_
  obtain ⟨p, as, e2, r0, f0, _⟩ := s.mutO ho
  obtain ⟨ep, ea, v0, v1, ps, _, _, _, h0, h1, h2⟩ := ow_world r0
  subst ep
  refine ⟨.ref p, e2, p, dx, _, rfl, h0, rfl, ?_⟩
  refine he G0 H0 σ H G _ s fun v d' G1 H1 u i1 ed => ?_
  obtain ⟨ev, rfl, ok⟩ := ed
  have s1 := s.ext u
  obtain ⟨p', as', e2', r1, f1, mu⟩ := s1.mutO ho
  rw [e2] at e2'
  cases e2'
  exact ⟨G1, p, as', p, dx, pa, S, st, es, ev, v, rfl, r1, s1.bs.zero, f1, i1, wf, bd, ok, hz, fun st' G2 H2 sr u2 r2 f2 => q _ _ _ _ (k ev st' ok sr) (mu G2 H2 _ u2 r2 f2)⟩
end
end Sh
/-! C4: faults of what is no state. -/
namespace Sh
open PySem PySem.Spec PyProof.Rows L2
open En (enc)
/-- what is known of BadEvent -/
structure ExT (K : PySem.W.Frag) (mg : Str → Option Value) (CE : Addr) : Prop where
  gE : mg "BadEvent" = some (.ref CE)
  xE : PySem.W.excIn K CE [.type "ValueError", .type "Exception", .type "BaseException", .type "object"] "ValueError.__new__" = true
  kE : PySem.W.keepIn K (.ref CE) = true
  bE : PySem.W.subIn K (.ref CE) (.type "BaseException") = some true
  tE : PySem.W.typeIn K (.ref CE) = some (.type "type")
  eE : PySem.W.exmOne K (.ref CE) (.ref CE) = some true
/-- faults is handed no state: BadEvent -/
def spOdd (K : PySem.W.Frag) (CE : Addr) : Sp := fun vs H _ E => ∃ (G : Hp) (S : Setup) (th : Th), IsAll K G vs [enc S.1, enc S.2.1, enc S.2.2, encTh th] ∧ Bs J0 G H ∧ SV S ∧ thLs th ∧ isTh S th = false ∧ ∀ G1 H1, Up J0 G H G1 H1 → E (.ref CE) none H1
section
variable {P : Program} {w : World} {K : PySem.W.Frag} {mg : Str → Option Value} {base : Heap} {CE : Addr}
theorem ok_odd (T : Txt K mg) (XT : ExT K mg CE) {f : Addr} {fd : FuncData} (F : Fun K "faults" "faults" (top 78) f fd) : FnOk P w K mg base (L2.CX P w) 6 f fd ["supplies", "deals", "buyers", "state"] (spOdd K CE) := by
  refine F.okX sc_faults (fun vs H Q E hs => ?_) (fun cdv A outer s0 H vs Q E hr hs => ⟨wpB _ (defBody (top 78)), pss_wp, ?_⟩)
  · obtain ⟨G, S, th, al, _⟩ := hs
    rw [al.len]; rfl
  obtain ⟨G, S, th, al, b, sv, tl, odd, q⟩ := hs
  have wf : SW S := sv.toSW
  have s := st_start (N := ["supplies", "deals", "buyers", "state", "setup"]) b al
  rw [startE_lit 1 rfl] at s
  have tk : Takes (cxOf (L2.CX P w) P w K mg base ["supplies", "deals", "buyers", "state", "setup"] "faults" (defScope (top 78)) f cdv A outer s0 H E) (fun cls d _ H => E cls d H) := takes_of rfl rfl rfl rfl
  refine wpB_of (pss_cons ps_wp pss_wp) ?_
  refine (ds_expr (env := [.d (enc S.1), .d (enc S.2.1), .d (enc S.2.2), .d (encTh th), .no]) (Φ := fun env => env = [.d (enc S.1), .d (enc S.2.1), .d (enc S.2.2), .d (encTh th), .no]) (Ψ := fun _ => False) (P := fun _ => True) ((c_need_setup T (hr.mono (by decide)) (x := S) (de_var (i := 0) rfl) (de_var (i := 1) rfl) (de_var (i := 2) rfl) sv).imp fun _ _ => trivial) rfl) G H _ H G _ s (fun env' σ1 H1 G1 e1 s1 => ?_) (fun _ _ _ _ _ _ h => h.elim)
  subst e1
  refine wpB_of (pss_cons ps_wp pss_wp) ?_
  refine (ds_setD (i := 4) (env := [.d (enc S.1), .d (enc S.2.1), .d (enc S.2.2), .d (encTh th), .no]) (Φ := fun env => env = [.d (enc S.1), .d (enc S.2.1), .d (enc S.2.2), .d (encTh th), .d (enc S)]) (Ψ := fun _ => False) (d := enc S) (de_tup (da_cons (de_var (i := 0) rfl) (da_cons (de_var (i := 1) rfl) (da_cons (de_var (i := 2) rfl) da_nil)))) sc_faults.nd rfl) G H _ H1 G1 _ s1 (fun env' σ2 H2 G2 e2 s2 => ?_) (fun _ _ _ _ _ _ h => h.elim)
  subst e2
  refine wpB_of (pss_cons (ps_if pt_wp (pss_one (ps_raise rfl tk (pmk_own PySem.F.excBase_ValueError XT.xE XT.gE XT.kE (raises_own XT.bE XT.tE) rfl))) pss_wp) pss_wp) ?_
  refine (dt_not (dt_val (c_is_state (env := [.d (enc S.1), .d (enc S.2.1), .d (enc S.2.2), .d (encTh th), .d (enc S)]) T (hr.mono (by decide)) (x := S) (y := th) (de_var (i := 4) rfl) (de_var (i := 3) rfl) wf tl))) G H _ H2 G2 _ s2 fun c G3 H3 u e3 => ?_
  rw [odd] at e3
  subst e3
  exact q G3 H3 (s2.up.trans u)
end
end Sh
/-! C5: rules that law wants. -/
namespace Sh
open PySem PySem.Spec PyProof.Rows L2
open En (enc)
theorem pl_arg : ∀ e : Ev, PlAll (En.dep Let) e.arg
  | .tick => .nil _
  | .fall w => .cons ((En.pl w).mono (by decide)) (.nil _)
  | .beg w => .cons ((En.pl w).mono (by decide)) (.nil _)
  | .give w => .cons ((En.pl w).mono (by decide)) (.nil _)
  | .ret w => .cons ((En.pl w).mono (by decide)) (.nil _)
  | .come l => .cons (En.pl l) (.nil _)
  | .double l => .cons (En.pl l) (.nil _)
  | .lose l => .cons (En.pl l) (.nil _)
theorem pl_encE (e : Ev) : Pl (En.dep Let + 1) (encE e) := .tup (.cons ((En.pl e.word).mono (by decide)) (pl_arg e))
section
variable {X : Cx} {J : Jn} {env : List SL} {e e1 e2 a b c : Expr} {Φ : List SL → Prop} {Ψ : D → Prop} {pos npos apos cpos p : Pos} {P P2 : D → Prop} {k0 : Nat} {N : Nat → Prop} {B : Bool → Prop}
theorem dt_neEv {evs : List Ev} (hr : Room k0 X.A) (ha : DE X J env a (.lst (evs.map encE))) (hb : DE X J env b (.lst [])) : TP' X J env (.Compare a [.NotEq] [b] pos) (fun r => r = true → evs ≠ []) :=
  (dt_cmp (c := !decide (evs = [])) (op_neD hr.units) (rb_neD (n := En.dep Let + 2) (m := 1) (.lst (PlAll.map pl_encE evs)) (.lst (.nil 0)) (by decide) (by decide) (by
    rw [decide_eq_true_eq, D.lst.injEq]
    exact ⟨fun h => by rw [h]; rfl, fun h => List.map_eq_nil_iff.mp h⟩)) ha hb (nomark _)).imp fun r h z => by
      subst h
      intro h
      rw [decide_eq_true h] at z
      cases z
/-- name = [elt for tg in iter if c], to be changed later -/
theorem ds_setLcP {α : Type} {elt tg iter cnd : Expr} {scope : Scope} {own : List (Str × Nat)} {t : Tgt} {xs : List α} {f : α → D} {p : α → Bool} {g : α → D} {env' : α → List SL} {i : Nat} {y : Str} {py spos : Pos} (hi : DI X J env tg iter (xs.map f)) (hN : X.N.Nodup) (ok : BlkOk X.N X.env.scope scope own) (hsl : ∀ i ∈ t.slots, i ∈ own.map (·.2))
    (hg : blkX X scope fun X' => PG X' tg (t.g X'.K)) (he' : ∀ x, TSt t (f x) (wipeE env (own.map (·.2))) (env' x)) (ht : blkX X scope fun X' => ∀ x ∈ xs, DTs X' J (env' x) [cnd] (p x)) (hel : blkX X scope fun X' => ∀ x ∈ xs, p x = true → DE X' J (env' x) elt (g x))
    (hl : xs.length < sizeLine) (k : Φ (env.set i (.own (.lst ((xs.filter p).map g))))) (hc : X.calm = true := by rfl) (hy : X.N[i]? = some y := by rfl) (hyl : X.env.scope.names.lookup y = some .local := by rfl) (hsw : swapsWith (.ListComp elt [⟨tg, iter, [cnd], 0⟩] scope pos) (some (.Name y py)) spos.line X.env = pure true := by exact sw_true rfl rfl rfl (by decide +kernel)) (hs : ∀ x, foldedSetIterable iter X.env x = pure x := by intro _; rfl) :
    DS X J env (.Assign [.Name y py] (.ListComp elt [⟨tg, iter, [cnd], 0⟩] scope pos) spos) Φ Ψ := fun G0 H0 σ H G Dn s q r pins st I => by
  refine dsw_lc_wp (ifs := [cnd]) hy hyl hsw hi hc hN ok hsl hg he' ht hel hl hs s (fun p' vs ds G1 H1 u h1 h2 h3 h4 h5 => ?_) pins st I
  subst h5
  refine q _ _ _ _ k (store_many (xs := [.own (.lst _)]) (vs := [.ref p']) (ass := [[p']]) s u ?_ ?_ [i])
  · exact .cons ⟨p', rfl, rfl, vs, h3, h4⟩ (fun bs hb => (by cases hb)) .nil
  · intro as ha a hb
    rw [List.mem_singleton.mp ha] at hb
    rw [List.mem_singleton.mp hb]
    exact ⟨h1, h2⟩
/-- own.insert(e1, e2) -/
theorem ds_insert {i : Nat} {n : Str} {ds : List D} (ho : env[i]? = some (.own (.lst ds))) (h1 : EP' X J env e1 (nI N)) (h2 : EP' X J env e2 P) (hN' : ∀ n, N n → n ≤ 1000) (hz : ds.length < 1000) (k : ∀ n d, N n → P d → Φ (env.set i (.own (.lst (ds.take n ++ [d] ++ ds.drop n))))) (hN : X.N[i]? = some n := by rfl) (hv : Vis X.env.scope n := by first | exact Or.inl rfl | exact Or.inr (Or.inl rfl) | exact Or.inr (Or.inr rfl))
    (hd : (n == ("__debug__" : Str)) = false := by decide) (hcd : (n == ("__classdict__" : Str)) = false := by decide) (hbase : attributeBase (.Name n npos) "insert" X.env (eval (.Name n npos) X.env) = eval (.Name n npos) X.env := by rfl)
    (hfew : ((backTo cpos (starEach [e1, e2] X.env)).all (fun x => !x.1) && (backToKw cpos (keywordEach [] X.env)).all (fun x => x.1.isSome) && decide ([e1, e2].length + ([] : List Keyword).length + (if ([] : List Keyword).isEmpty then 0 else 1) < 30)) = true := by rfl)
    (hline : (apos.endLine == cpos.line) = true := by rfl) (hs : starEach [e1, e2] X.env = (false, eval e1 X.env) :: starEach [e2] X.env := by rfl) (hs2 : starEach [e2] X.env = (false, eval e2 X.env) :: starEach [] X.env := by rfl) (hplain : (backTo cpos (starEach [e2] X.env)).any (·.1) = false := by rfl)
    (hsw : swapsWith (.Call (.Attribute (.Name n npos) "insert" apos) [e1, e2] [] cpos) none pos.line X.env = pure false := by rfl) : DS X J env (.Expr (.Call (.Attribute (.Name n npos) "insert" apos) [e1, e2] [] cpos) pos) Φ Ψ := fun G0 H0 σ H G Dn s q r => by
  refine wpS_of (ps_expr (pe_bm PySem.F.plainAttrs_list PySem.F.slot_list_insert PySem.F.type_list_insert mt_insert (pe_var hN hv hd hcd) (pa_cons pe_wp (pa_cons pe_wp pa_nil (by exact hs2)) (by exact hs)) hbase hfew hline hs hplain) hsw) ?_
  obtain ⟨p, as, e2', ⟨ea, vs, hp, al⟩, _⟩ := s.ownAt ho
  refine ⟨.ref p, e2', .inl ⟨rfl, vs, .inl (.inl hp)⟩, ?_⟩
  refine h1 G0 H0 σ H G _ s fun v d G1 H1 u i1 pd => ?_
  obtain ⟨m, hm, rfl⟩ := pd
  refine h2 G0 H0 σ H1 G1 _ (s.ext u) fun v2 d2 G2 H2 u2 i2 pd2 => ?_
  have s1 := (s.ext u).ext u2
  obtain ⟨p', as', e3, ⟨ea', vs', hp', al'⟩, mu⟩ := s1.ownAt ho
  rw [e2'] at e3
  cases e3
  have := hN' m hm
  refine ⟨p, vs', (m : Nat), v2, rfl, by rw [i1.int_inv], hp', small (m := 1000) (by rw [al'.len]; exact Nat.le_of_lt hz), by omega, by omega, ?_⟩
  rw [Int.toNat_natCast]
  exact q _ _ _ _ (k m d2 hm pd2) (mu _ _ ⟨ea', _, upd_same, ((al'.take m).append (.cons i2 .nil)).append (al'.drop m)⟩)
/-- own.pop(e), its value not used -/
theorem ds_popAt {i : Nat} {n : Str} {ds : List D} (ho : env[i]? = some (.own (.lst ds))) (h1 : EP' X J env e1 (nI fun n => n < ds.length)) (hz : ds.length ≤ 1000) (k : ∀ n, n < ds.length → Φ (env.set i (.own (.lst (ds.eraseIdx n))))) (hN : X.N[i]? = some n := by rfl) (hv : Vis X.env.scope n := by first | exact Or.inl rfl | exact Or.inr (Or.inl rfl) | exact Or.inr (Or.inr rfl))
    (hd : (n == ("__debug__" : Str)) = false := by decide) (hcd : (n == ("__classdict__" : Str)) = false := by decide) (hbase : attributeBase (.Name n npos) "pop" X.env (eval (.Name n npos) X.env) = eval (.Name n npos) X.env := by rfl)
    (hfew : ((backTo cpos (starEach [e1] X.env)).all (fun x => !x.1) && (backToKw cpos (keywordEach [] X.env)).all (fun x => x.1.isSome) && decide ([e1].length + ([] : List Keyword).length + (if ([] : List Keyword).isEmpty then 0 else 1) < 30)) = true := by rfl)
    (hline : (apos.endLine == cpos.line) = true := by rfl) (hs : starEach [e1] X.env = (false, eval e1 X.env) :: starEach [] X.env := by rfl) (hplain : (backTo cpos (starEach [] X.env)).any (·.1) = false := by rfl)
    (hsw : swapsWith (.Call (.Attribute (.Name n npos) "pop" apos) [e1] [] cpos) none pos.line X.env = pure false := by rfl) : DS X J env (.Expr (.Call (.Attribute (.Name n npos) "pop" apos) [e1] [] cpos) pos) Φ Ψ := fun G0 H0 σ H G Dn s q r => by
  refine wpS_of (ps_expr (pe_bm PySem.F.plainAttrs_list PySem.F.slot_list_pop PySem.F.type_list_pop mt_popAt (pe_var hN hv hd hcd) (pa_cons pe_wp pa_nil (by exact hs)) hbase hfew hline hs hplain) hsw) ?_
  obtain ⟨p, as, e2', ⟨ea, vs, hp, al⟩, _⟩ := s.ownAt ho
  refine ⟨.ref p, e2', .inl ⟨rfl, vs, .inl (.inl hp)⟩, ?_⟩
  refine h1 G0 H0 σ H G _ s fun v d G1 H1 u i1 pd => ?_
  obtain ⟨m, hm, rfl⟩ := pd
  have s1 := s.ext u
  obtain ⟨p', as', e3, ⟨ea', vs', hp', al'⟩, mu⟩ := s1.ownAt ho
  rw [e2'] at e3
  cases e3
  obtain ⟨y, hy, _⟩ := al'.get (i := m) (List.getElem?_eq_getElem hm)
  refine ⟨p, vs', (m : Nat), m, y, rfl, by rw [i1.int_inv], hp', by omega, by omega, (ixN_seq (ixN_at (by rw [al'.len]; exact hm))).1, hy, ?_⟩
  exact q _ _ _ _ (k m hm) (mu _ _ ⟨ea', _, upd_same, al'.eraseIdx m⟩)
/-- min(a, b) of two whole numbers from 0 on -/
theorem ep_min2 {i : Nat} (hm : X.mg "min" = none) (ha : EP' X J env a (nI N)) (hb : DE X J env b (.int (i : Nat))) (hc : X.calm = true := by rfl) (hg : Gl X "min" := by rfl) (he : starEach [a, b] X.env = (false, eval a X.env) :: starEach [b] X.env := by rfl) (he2 : starEach [b] X.env = (false, eval b X.env) :: starEach [] X.env := by rfl) (hpl : (backTo pos (starEach [b] X.env)).any (·.1) = false := by rfl) : EP' X J env (.Call (.Name "min" p) [a, b] [] pos) (nI fun n => n ≤ i) := by
  refine ep_callB (PA := fun l => ∃ n : Nat, l = [.int (n : Nat), .int (i : Nat)]) (call_min2 hc) hm (by decide +kernel) (ap_cons ha (da_cons hb da_nil (by exact he2)) (fun d ds h e => ?_) (by exact he)) (fun vs ds' G H Q b al pa q => ?_) hg (by decide) (by decide) he hpl
  · obtain ⟨n, _, rfl⟩ := h
    exact ⟨n, by rw [e]⟩
  · obtain ⟨n, rfl⟩ := pa
    obtain ⟨v, u, rfl, r1, r2⟩ := isAll2 al
    refine ⟨(n : Nat), (i : Nat), by rw [r1.int_inv, r2.int_inv], ?_⟩
    by_cases z : (i : Int) < n
    · rw [if_pos z]
      exact q _ (.int (i : Nat)) G H (Up.refl b) (.int _) ⟨i, Nat.le_refl _, rfl⟩
    · rw [if_neg z]
      exact q _ (.int (n : Nat)) G H (Up.refl b) (.int _) ⟨n, by omega, rfl⟩
end
end Sh
/-! M1: rows and stages. -/
namespace Sh
theorem stand_app (log : Log) (p : W × W) (d : W) : standOf (log ++ [p]) d = if p.2 = d then p.1 else standOf log d := by
  unfold standOf; rw [List.foldl_append]; rfl
theorem row_app (log : Log) (p : W × W) (d : W) : rowOf (log ++ [p]) d = if p.2 = d then rowOf log d ++ [p.1] else rowOf log d := by
  unfold rowOf
  rw [List.filter_append, List.map_append]
  by_cases h : p.2 = d
  · rw [if_pos h, List.filter_cons_of_pos (by exact decide_eq_true h)]; rfl
  · rw [if_neg h, List.filter_cons_of_neg (by simpa using h)]; simp
def lastW (r : List W) : W := r.getLast?.getD .em
theorem snocRec {α : Type} {P : List α → Prop} (h0 : P []) (h1 : ∀ l a, P l → P (l ++ [a])) (l : List α) : P l := by
  have : P l.reverse.reverse := by
    induction l.reverse with
    | nil => exact h0
    | cons a r ih => rw [List.reverse_cons]; exact h1 _ _ ih
  rwa [List.reverse_reverse] at this
theorem stand_last (log : Log) (d : W) : standOf log d = lastW (rowOf log d) := by
  induction log using snocRec with
  | h0 => rfl
  | h1 l p ih =>
    rw [stand_app, row_app]
    by_cases h : p.2 = d
    · rw [if_pos h, if_pos h]; unfold lastW; simp
    · rw [if_neg h, if_neg h, ih]
theorem row_mem {log : Log} {w d : W} : w ∈ rowOf log d ↔ (w, d) ∈ log := by
  unfold rowOf
  rw [List.mem_map]
  constructor
  · rintro ⟨p, hp, e⟩
    obtain ⟨h1, h2⟩ := List.mem_filter.mp hp
    have h2' : p.2 = d := of_decide_eq_true h2
    rw [← e, ← h2']; exact h1
  · intro h
    exact ⟨(w, d), List.mem_filter.mpr ⟨h, decide_eq_true rfl⟩, rfl⟩
/-- the words of a keeper: keep, go, drop, back -/
structure Told where
  k : W
  g : W
  d : W
  b : W
def houseT : Told := ⟨.reserved, .sent, .released, .back⟩
def bankT : Told := ⟨.held, .taken, .freed, .refunded⟩
def rowsT (T : Told) : List (List W) := [[], [T.k], [T.d], [T.k, T.d], [T.k, T.g], [T.k, T.g, T.b]]
theorem rowsT_house : rowsT houseT = hrows := rfl
theorem rowsT_bank : rowsT bankT = brows := rfl
structure Told.Ok (T : Told) : Prop where
  kg : T.k ≠ T.g
  kd : T.k ≠ T.d
  kb : T.k ≠ T.b
  gd : T.g ≠ T.d
  gb : T.g ≠ T.b
  db : T.d ≠ T.b
  ke : T.k ≠ .em
  ge : T.g ≠ .em
  de : T.d ≠ .em
  be : T.b ≠ .em
theorem houseT_ok : houseT.Ok := ⟨by decide, by decide, by decide, by decide, by decide, by decide, by decide, by decide, by decide, by decide⟩
theorem bankT_ok : bankT.Ok := ⟨by decide, by decide, by decide, by decide, by decide, by decide, by decide, by decide, by decide, by decide⟩
/-- a keeper's row r stands rightly with the shop's row R -/
structure QR (T : Told) (R r : List W) : Prop where
  r0 : r ∈ rowsT T
  n1 : T.g ∈ r → W.go ∈ R
  n2 : T.d ∈ r → W.drop ∈ R
  n3 : T.b ∈ r → W.ret ∈ R
  p1 : W.go ∈ R → T.k ∈ r
  p2 : W.ended ∈ R → W.go ∈ R → T.g ∈ r
  p3 : W.ended ∈ R → W.drop ∈ R → T.d ∈ r
  p4 : W.returned ∈ R → T.b ∈ r
theorem QR.app {T : Told} {R r : List W} (q : QR T R r) {w : W} (h : r ++ [w] ∈ rowsT T) (h1 : w = T.g → W.go ∈ R) (h2 : w = T.d → W.drop ∈ R) (h3 : w = T.b → W.ret ∈ R) : QR T R (r ++ [w]) where
  r0 := h
  n1 := fun m => by
    rcases List.mem_append.mp m with z | z
    · exact q.n1 z
    · exact h1 (List.mem_singleton.mp z).symm
  n2 := fun m => by
    rcases List.mem_append.mp m with z | z
    · exact q.n2 z
    · exact h2 (List.mem_singleton.mp z).symm
  n3 := fun m => by
    rcases List.mem_append.mp m with z | z
    · exact q.n3 z
    · exact h3 (List.mem_singleton.mp z).symm
  p1 := fun m => List.mem_append_left _ (q.p1 m)
  p2 := fun m m2 => List.mem_append_left _ (q.p2 m m2)
  p3 := fun m m2 => List.mem_append_left _ (q.p3 m m2)
  p4 := fun m => List.mem_append_left _ (q.p4 m)
theorem QR.empty {T : Told} : QR T [] [] := ⟨List.mem_cons_self, by simp, by simp, by simp, by simp, by simp, by simp, by simp⟩
/-- the shop writes -/
theorem QR.begun {T : Told} {r : List W} (q : QR T [] r) : QR T [W.begun] r :=
  ⟨q.r0, fun m => absurd (q.n1 m) (by simp), fun m => absurd (q.n2 m) (by simp), fun m => absurd (q.n3 m) (by simp), by simp, by simp, by simp, by simp⟩
theorem QR.drop {T : Told} {r : List W} (q : QR T [W.begun] r) : QR T [W.begun, .drop] r :=
  ⟨q.r0, fun m => by have := q.n1 m; simp at this, fun m => by simp, fun m => by have := q.n3 m; simp at this, by simp, by simp, by simp, by simp⟩
theorem QR.go {T : Told} {r : List W} (q : QR T [W.begun] r) (h : T.k ∈ r) : QR T [W.begun, .go] r :=
  ⟨q.r0, fun m => by simp, fun m => by have := q.n2 m; simp at this, fun m => by have := q.n3 m; simp at this, fun _ => h, by simp, by simp, by simp⟩
theorem QR.ended {T : Told} {r : List W} (q : QR T [W.begun, .go] r) (h : T.g ∈ r) : QR T [W.begun, .go, .ended] r :=
  ⟨q.r0, fun m => by simp, fun m => by have := q.n2 m; simp at this, fun m => by have := q.n3 m; simp at this, fun _ => q.p1 (by simp), fun _ _ => h, by simp, by simp⟩
theorem QR.endedD {T : Told} {r : List W} (q : QR T [W.begun, .drop] r) (h : T.d ∈ r) : QR T [W.begun, .drop, .ended] r :=
  ⟨q.r0, fun m => by have := q.n1 m; simp at this, fun m => by simp, fun m => by have := q.n3 m; simp at this, by simp, by simp, fun _ _ => h, by simp⟩
theorem QR.ret {T : Told} {r : List W} (q : QR T [W.begun, .go, .ended] r) : QR T [W.begun, .go, .ended, .ret] r :=
  ⟨q.r0, fun m => by simp, fun m => by have := q.n2 m; simp at this, fun m => by simp, fun _ => q.p1 (by simp), fun _ _ => q.p2 (by simp) (by simp), by simp, by simp⟩
theorem QR.returned {T : Told} {r : List W} (q : QR T [W.begun, .go, .ended, .ret] r) (h : T.b ∈ r) : QR T [W.begun, .go, .ended, .ret, .returned] r :=
  ⟨q.r0, fun m => by simp, fun m => by have := q.n2 m; simp at this, fun m => by simp, fun _ => q.p1 (by simp), fun _ _ => q.p2 (by simp) (by simp), by simp, fun _ => h⟩
/-- stages tell rows -/
def ShopR (R : List W) : Prop := R = [] ∨ R ∈ rows0
theorem shop_em {R : List W} (h : ShopR R) (e : lastW R = .em) : R = [] := by
  rcases h with h | h
  · exact h
  · simp only [rows0, List.mem_cons, List.not_mem_nil, or_false] at h
    rcases h with h | h | h | h | h | h | h <;> subst h <;> simp [lastW] at e
theorem shop_begun {R : List W} (h : ShopR R) (e : lastW R = .begun) : R = [.begun] := by
  rcases h with h | h
  · subst h; simp [lastW] at e
  · simp only [rows0, List.mem_cons, List.not_mem_nil, or_false] at h
    rcases h with h | h | h | h | h | h | h <;> subst h <;> first | rfl | simp [lastW] at e
theorem shop_go {R : List W} (h : ShopR R) (e : lastW R = .go) : R = [.begun, .go] := by
  rcases h with h | h
  · subst h; simp [lastW] at e
  · simp only [rows0, List.mem_cons, List.not_mem_nil, or_false] at h
    rcases h with h | h | h | h | h | h | h <;> subst h <;> first | rfl | simp [lastW] at e
theorem shop_drop {R : List W} (h : ShopR R) (e : lastW R = .drop) : R = [.begun, .drop] := by
  rcases h with h | h
  · subst h; simp [lastW] at e
  · simp only [rows0, List.mem_cons, List.not_mem_nil, or_false] at h
    rcases h with h | h | h | h | h | h | h <;> subst h <;> first | rfl | simp [lastW] at e
theorem shop_ret {R : List W} (h : ShopR R) (e : lastW R = .ret) : R = [.begun, .go, .ended, .ret] := by
  rcases h with h | h
  · subst h; simp [lastW] at e
  · simp only [rows0, List.mem_cons, List.not_mem_nil, or_false] at h
    rcases h with h | h | h | h | h | h | h <;> subst h <;> first | rfl | simp [lastW] at e
theorem shop_ended {R : List W} (h : ShopR R) (e : lastW R = .ended) (g : W.go ∈ R) : R = [.begun, .go, .ended] := by
  rcases h with h | h
  · subst h; simp [lastW] at e
  · simp only [rows0, List.mem_cons, List.not_mem_nil, or_false] at h
    rcases h with h | h | h | h | h | h | h <;> subst h <;> first | rfl | exact absurd g (by decide) | (simp [lastW] at e; done)
/-- a keeper's row by its last word -/
theorem keep_em {T : Told} (k : T.Ok) {r : List W} (h : r ∈ rowsT T) (e : lastW r = .em) : r = [] := by
  simp only [rowsT, List.mem_cons, List.not_mem_nil, or_false] at h
  rcases h with h | h | h | h | h | h <;> subst h <;> simp [lastW] at e <;> first | rfl | exact absurd e k.ke | exact absurd e k.ge | exact absurd e k.de | exact absurd e k.be
theorem keep_k {T : Told} (k : T.Ok) {r : List W} (h : r ∈ rowsT T) (e : lastW r = T.k) : r = [T.k] := by
  simp only [rowsT, List.mem_cons, List.not_mem_nil, or_false] at h
  rcases h with h | h | h | h | h | h <;> subst h <;> simp [lastW] at e <;> first | rfl | exact absurd e.symm k.ke | exact absurd e.symm k.kg | exact absurd e.symm k.kd | exact absurd e.symm k.kb
theorem keep_g {T : Told} (k : T.Ok) {r : List W} (h : r ∈ rowsT T) (e : lastW r = T.g) : r = [T.k, T.g] := by
  simp only [rowsT, List.mem_cons, List.not_mem_nil, or_false] at h
  rcases h with h | h | h | h | h | h <;> subst h <;> simp [lastW] at e <;> first | rfl | exact absurd e.symm k.ge | exact absurd e k.kg | exact absurd e.symm k.gd | exact absurd e.symm k.gb
theorem keep_d {T : Told} (k : T.Ok) {r : List W} (h : r ∈ rowsT T) (e : lastW r = T.d) : r = [T.d] ∨ r = [T.k, T.d] := by
  simp only [rowsT, List.mem_cons, List.not_mem_nil, or_false] at h
  rcases h with h | h | h | h | h | h <;> subst h <;> simp [lastW] at e <;> first | exact .inl rfl | exact .inr rfl | exact absurd e.symm k.de | exact absurd e k.kd | exact absurd e k.gd | exact absurd e.symm k.db
theorem keep_b {T : Told} (k : T.Ok) {r : List W} (h : r ∈ rowsT T) (e : lastW r = T.b) : r = [T.k, T.g, T.b] := by
  simp only [rowsT, List.mem_cons, List.not_mem_nil, or_false] at h
  rcases h with h | h | h | h | h | h <;> subst h <;> simp [lastW] at e <;> first | rfl | exact absurd e.symm k.be | exact absurd e k.kb | exact absurd e k.gb | exact absurd e k.db
theorem last_mem {r : List W} {w : W} (h : lastW r = w) (n : w ≠ .em) : w ∈ r := by
  unfold lastW at h
  cases e : r.getLast? with
  | none => rw [e] at h; exact absurd h.symm n
  | some x => rw [e] at h; have : x = w := h; subst this; exact List.mem_of_getLast? e
end Sh
/-! B3: _law_fine. -/
namespace Sh
open PySem PySem.Spec PyProof.Rows L2
open En (enc)
abbrev namesF : List Str := "_law_setup" :: "_law_state" :: "_law_supplies" :: "_law_deals_here" :: "_law_buyers" :: "_law_one" :: "_law_houses" :: "_law_free" :: "_law_with_buyer" :: "_law_homes" :: "_law_name" :: "_law_buyer" :: "_law_parts" :: "_law_cents" :: "_law_shop" :: "_law_bank" :: "_law_own" :: "_law_ways" :: "_law_long" :: "_law_house" :: "_law_rows" :: "_law_is_own" :: "_law_alike_here" :: "_law_words_here" :: "_law_told" :: "_law_keep" :: "_law_go" :: "_law_drop" :: "_law_back" :: "_law_all_rows" :: "_law_supply" :: "_law_count" :: "_law_stand" :: "_law_log" :: "_law_at" :: "_law_part" :: []
def addU (u : W → Int) (x : W) (n : Int) : W → Int := fun y => if y = x then u y + n else u y
def bndW (r : List W) : Bool := (!decide (r = [])) && !decide (lastW r = .released)
def bndB (r : List W) : Bool := (!decide (r = [])) && decide (lastW r ∈ [W.held, .taken])
def uP (S : Setup) (row : W → List W) (ps : List Prt) (u : W → Int) : W → Int := ps.foldl (fun u p => addU u p.1 (if bndW (row (homeOf S p.1)) = true then p.2 else 0)) u
def uD (S : Setup) (logs : List Log) (ds : List Deal) (u : W → Int) : W → Int := ds.foldl (fun u d => uP S (rowAt (rowsF S logs d.1)) d.2.2.1 u) u
def vD (bank : Log) (ds : List Deal) (v : W → Int) : W → Int := ds.foldl (fun v d => addU v d.2.1 (if bndB (rowOf bank d.1) = true then d.2.2.2 else 0)) v
def freeKv (S : Setup) (u : W → Int) : List (W × D) := S.1.map fun s => (s.1, .int (s.2.2 - u s.1))
def withKv (S : Setup) (v : W → Int) : List (W × D) := S.2.2.map fun b => (b.1, .int (b.2 - v b.1))
def ways0 : List (List W) := [[], [.begun], [.begun, .drop], [.begun, .drop, .ended]]
def longL : List W := [.begun, .go, .ended, .ret, .returned]
def waysL : List (List W) := ways0 ++ (List.range 4).map fun i => longL.take (2 + i)
def ownB (S : Setup) (d : Deal) (h : W) : Bool := !decide (d.2.2.1.filter (fun p => decide (homeOf S p.1 = h)) = [])
def toldL (T : Told) : List W := [T.k, T.g, T.d, T.b]
def alikeB1 (shop : List W) (T : Told) (r : List W) : Bool := (decide (T.g ∈ r) && !decide (W.go ∈ shop)) || (decide (T.d ∈ r) && !decide (W.drop ∈ shop))
def alikeB (shop : List W) (q : List W × Told) : Bool := decide (q.1 ∈ rowsT q.2) && (!alikeB1 shop q.2 q.1 && !(decide (q.2.b ∈ q.1) && !decide (W.ret ∈ shop)))
def endQ1 (shop : List W) (T : Told) (r : List W) : Bool := (decide (W.go ∈ shop) && !decide (T.k ∈ r)) || (decide (W.ended ∈ shop) && (decide (W.go ∈ shop) && !decide (T.g ∈ r)))
def endQ (shop : List W) (q : List W × Told) : Bool := !endQ1 shop q.2 q.1 && (!(decide (W.ended ∈ shop) && (decide (W.drop ∈ shop) && !decide (q.2.d ∈ q.1))) && !(decide (W.returned ∈ shop) && !decide (q.2.b ∈ q.1)))
def alikes (S : Setup) (row : W → List W) (bk : List W) : List (List W × Told) := (housesIn S).map (fun h => (row h, houseT)) ++ [(bk, bankT)]
def ends (S : Setup) (d : Deal) (row : W → List W) (bk : List W) : List (List W × Told) := ((housesIn S).filter (ownB S d)).map (fun h => (row h, houseT)) ++ [(bk, bankT)]
def ownBad (S : Setup) (d : Deal) (row : W → List W) (h : W) : Bool := (!decide (row h = [])) && !ownB S d h
def dealFineB (S : Setup) (st : State) (d : Deal) : Bool := decide (rowOf st.1 d.1 ∈ waysL) && (((housesIn S).all fun h => !ownBad S d (rowAt (rowsF S st.2.2.1 d.1)) h) && (((alikes S (rowAt (rowsF S st.2.2.1 d.1)) (rowOf st.2.2.2.1 d.1)).all (alikeB (rowOf st.1 d.1))) && ((ends S d (rowAt (rowsF S st.2.2.1 d.1)) (rowOf st.2.2.2.1 d.1)).all (endQ (rowOf st.1 d.1)))))
def zeroB (ns : List Int) : Bool := decide (ns.foldl min 0 = 0)
def fineB (S : Setup) (st : State) : Bool := S.2.1.all (dealFineB S st) && (zeroB (S.1.map fun s => s.2.2 - uD S st.2.2.1 S.2.1 (fun _ => 0) s.1) && zeroB (S.2.2.map fun b => b.2 - vD st.2.2.2.1 S.2.1 (fun _ => 0) b.1))
theorem fine_bad {S : Setup} {st : State} {d : Deal} (hd : d ∈ S.2.1) (h : dealFineB S st d = false) : fineB S st = false := by
  unfold fineB
  have z : S.2.1.all (dealFineB S st) = false := by
    rw [List.all_eq_false]
    exact ⟨d, hd, by rw [h]; decide⟩
  rw [z, Bool.false_and]
theorem all_bad {α : Type} {p : α → Bool} {xs : List α} {x : α} (h : x ∈ xs) (e : p x = false) : xs.all p = false := by
  rw [List.all_eq_false]
  exact ⟨x, h, by rw [e]; decide⟩
theorem take_all {α : Type} {p : α → Prop} {xs : List α} {i : Nat} {x : α} (h : ∀ y ∈ xs.take i, p y) (hx : p x) (e : xs[i]? = some x) : ∀ y ∈ xs.take (i + 1), p y := by
  rw [take_succ_of e]
  intro y hy
  rcases List.mem_append.mp hy with z | z
  · exact h y z
  · rw [List.mem_singleton.mp z]; exact hx
theorem uD_snoc (S : Setup) (logs : List Log) (ds : List Deal) (d : Deal) (u : W → Int) : uD S logs (ds ++ [d]) u = uP S (rowAt (rowsF S logs d.1)) d.2.2.1 (uD S logs ds u) := by
  unfold uD; rw [List.foldl_append]; rfl
theorem uP_snoc (S : Setup) (row : W → List W) (ps : List Prt) (p : Prt) (u : W → Int) : uP S row (ps ++ [p]) u = addU (uP S row ps u) p.1 (if bndW (row (homeOf S p.1)) = true then p.2 else 0) := by
  unfold uP; rw [List.foldl_append]; rfl
theorem vD_snoc (bank : Log) (ds : List Deal) (d : Deal) (v : W → Int) : vD bank (ds ++ [d]) v = addU (vD bank ds v) d.2.1 (if bndB (rowOf bank d.1) = true then d.2.2.2 else 0) := by
  unfold vD; rw [List.foldl_append]; rfl
theorem freeKv_keys (S : Setup) (u : W → Int) : (freeKv S u).map (·.1) = S.1.map (·.1) := by unfold freeKv; rw [List.map_map]; rfl
theorem withKv_keys (S : Setup) (u : W → Int) : (withKv S u).map (·.1) = S.2.2.map (·.1) := by unfold withKv; rw [List.map_map]; rfl
theorem freeKv_look {S : Setup} (wf : SW S) (u : W → Int) {s : Sup} (hs : s ∈ S.1) : lookW (freeKv S u) s.1 = some (.int (s.2.2 - u s.1)) := lookW_of_mem (by rw [freeKv_keys]; exact wf.sn) (List.mem_map.mpr ⟨s, hs, rfl⟩)
theorem withKv_look {S : Setup} (wf : SW S) (u : W → Int) {s : Buy} (hs : s ∈ S.2.2) : lookW (withKv S u) s.1 = some (.int (s.2 - u s.1)) := lookW_of_mem (by rw [withKv_keys]; exact wf.bn) (List.mem_map.mpr ⟨s, hs, rfl⟩)
theorem freeKv_put {S : Setup} (wf : SW S) (u : W → Int) {s : Sup} (hs : s ∈ S.1) (n : Int) : putW (freeKv S u) s.1 (.int (s.2.2 - u s.1 - n)) = freeKv S (addU u s.1 n) := by
  unfold putW
  have m : s.1 ∈ (freeKv S u).map (·.1) := by rw [freeKv_keys]; exact List.mem_map.mpr ⟨s, hs, rfl⟩
  obtain ⟨p, hp, ep⟩ := List.mem_map.mp m
  rw [if_pos (List.any_eq_true.mpr ⟨p, hp, decide_eq_true ep⟩)]
  unfold freeKv
  rw [List.map_map]
  apply List.map_congr_left
  intro a ha
  show (if a.1 = s.1 then (a.1, D.int (s.2.2 - u s.1 - n)) else (a.1, D.int (a.2.2 - u a.1))) = (a.1, D.int (a.2.2 - addU u s.1 n a.1))
  unfold addU
  by_cases q : a.1 = s.1
  · have ea : a = s := nodup_fst wf.sn ha hs q
    rw [if_pos q, if_pos q, ea, Int.sub_sub]
  · rw [if_neg q, if_neg q]
theorem withKv_put {S : Setup} (wf : SW S) (u : W → Int) {s : Buy} (hs : s ∈ S.2.2) (n : Int) : putW (withKv S u) s.1 (.int (s.2 - u s.1 - n)) = withKv S (addU u s.1 n) := by
  unfold putW
  have m : s.1 ∈ (withKv S u).map (·.1) := by rw [withKv_keys]; exact List.mem_map.mpr ⟨s, hs, rfl⟩
  obtain ⟨p, hp, ep⟩ := List.mem_map.mp m
  rw [if_pos (List.any_eq_true.mpr ⟨p, hp, decide_eq_true ep⟩)]
  unfold withKv
  rw [List.map_map]
  apply List.map_congr_left
  intro a ha
  show (if a.1 = s.1 then (a.1, D.int (s.2 - u s.1 - n)) else (a.1, D.int (a.2 - u a.1))) = (a.1, D.int (a.2 - addU u s.1 n a.1))
  unfold addU
  by_cases q : a.1 = s.1
  · have ea : a = s := nodup_fst wf.bn ha hs q
    rw [if_pos q, if_pos q, ea, Int.sub_sub]
  · rw [if_neg q, if_neg q]
theorem mem_encL {x : List W} {ys : List (List W)} : encL x ∈ ys.map (encL : List W → D) ↔ x ∈ ys := by
  rw [List.mem_map]
  exact ⟨fun ⟨b, hb, e⟩ => by rw [← encL_inj.mp e]; exact hb, fun h => ⟨x, h, rfl⟩⟩
theorem last_at {r : List W} (h : r ≠ []) : atI (r.map (enc : W → D)) (-1) = some (enc (lastW r)) := by
  have e : r = r.dropLast ++ [r.getLast h] := (List.dropLast_concat_getLast h).symm
  have l : lastW r = r.getLast h := by unfold lastW; rw [List.getLast?_eq_getLast h]; rfl
  rw [l]
  generalize r.getLast h = w at e
  rw [e, List.map_append]
  exact atI_last _ _
section
variable {X : Cx} {J : Jn} {env : List SL} {a b e : Expr} {pos p : Pos} {k : Nat}
theorem dt_ninL {x : List W} {ys : List (List W)} (hr : Room k X.A) (ha : DE X J env a (encL x)) (hb : DE X J env b (.lst (ys.map encL))) (hm : behindInMarks .NotIn b = false := by rfl) : DT X J env (.Compare a [.NotIn] [b] pos) (!decide (x ∈ ys)) :=
  dt_cmp (op_notInA (hu65 hr)) (rb_in (c := decide (x ∈ ys)) (neg := true) (.lst _) (pl_encL x) (PlAll.map pl_encL ys) (by decide) (by decide) (by rw [decide_eq_true_eq, mem_encL])) ha hb hm
theorem ds_setLcO {α : Type} {elt tg iter : Expr} {scope : Scope} {own : List (Str × Nat)} {t : Tgt} {xs : List α} {f : α → D} {g : α → D} {env' : α → List SL} {i : Nat} {y : Str} {py spos : Pos} {Φ : List SL → Prop} {Ψ : D → Prop} (hi : DI X J env tg iter (xs.map f)) (hN : X.N.Nodup) (ok : BlkOk X.N X.env.scope scope own) (hsl : ∀ i ∈ t.slots, i ∈ own.map (·.2))
    (hg : blkX X scope fun X' => PG X' tg (t.g X'.K)) (he' : ∀ x, TSt t (f x) (wipeE env (own.map (·.2))) (env' x)) (hel : blkX X scope fun X' => ∀ x ∈ xs, DE X' J (env' x) elt (g x))
    (hl : xs.length < sizeLine) (k : Φ (env.set i (.own (.lst (xs.map g))))) (hc : X.calm = true := by rfl) (hy : X.N[i]? = some y := by rfl) (hyl : X.env.scope.names.lookup y = some .local := by rfl) (hsw : swapsWith (.ListComp elt [⟨tg, iter, [], 0⟩] scope pos) (some (.Name y py)) spos.line X.env = pure true := by exact sw_true rfl rfl rfl (by decide +kernel)) (hs : ∀ x, foldedSetIterable iter X.env x = pure x := by intro _; rfl) :
    DS X J env (.Assign [.Name y py] (.ListComp elt [⟨tg, iter, [], 0⟩] scope pos) spos) Φ Ψ := fun G0 H0 σ H G Dn s q r pins st I => by
  refine dsw_lc_wp (p := fun _ => true) (ifs := []) hy hyl hsw hi hc hN ok hsl hg he' (fun _ _ _ _ _ _ _ => dts_nil) (fun s H C cl fp x hx _ => hel s H C cl fp x hx) hl hs s (fun p' vs ds G1 H1 u h1 h2 h3 h4 h5 => ?_) pins st I
  subst h5
  rw [List.filter_eq_self.mpr (fun _ _ => rfl)] at h4
  refine q _ _ _ _ k (store_many (xs := [.own (.lst (xs.map g))]) (vs := [.ref p']) (ass := [[p']]) s u ?_ ?_ [i])
  · exact .cons ⟨p', rfl, rfl, vs, h3, h4⟩ (fun bs hb => (by cases hb)) .nil
  · intro as ha a hb
    rw [List.mem_singleton.mp ha] at hb
    rw [List.mem_singleton.mp hb]
    exact ⟨h1, h2⟩
theorem de_ways {p1 p2 p3 p4 q1 q2 q3 q4 q5 q6 : Pos} {j1 j2 j3 j4 j5 j6} : DE X J env (.List [.List [] p1, .List [.Constant (.str "begun") j1 q1] p2, .List [.Constant (.str "begun") j2 q2, .Constant (.str "drop") j3 q3] p3, .List [.Constant (.str "begun") j4 q4, .Constant (.str "drop") j5 q5, .Constant (.str "ended") j6 q6] p4] pos) (.lst (ways0.map encL)) :=
  DE.cast (de_fe (df_lst (da_cons (de_fe df_nil) (da_cons (de_fe (df_lst (da_cons (de_W .begun) da_nil))) (da_cons (de_fe (df_lst (da_cons (de_W .begun) (da_cons (de_W .drop) da_nil)))) (da_cons (de_fe (df_lst (da_cons (de_W .begun) (da_cons (de_W .drop) (da_cons (de_W .ended) da_nil))))) da_nil)))))) rfl
theorem de_long {q1 q2 q3 q4 q5 : Pos} {j1 j2 j3 j4 j5} : DE X J env (.List [.Constant (.str "begun") j1 q1, .Constant (.str "go") j2 q2, .Constant (.str "ended") j3 q3, .Constant (.str "return") j4 q4, .Constant (.str "returned") j5 q5] pos) (encL longL) :=
  DE.cast (de_fe (df_lst (da_cons (de_W .begun) (da_cons (de_W .go) (da_cons (de_W .ended) (da_cons (de_W .ret) (da_cons (de_W .returned) da_nil))))))) rfl
theorem de_neg1 {j q} : DE X J env (.UnaryOp .USub (.Constant (.int 1) j q) pos) (.int (-1)) := ep_un un_neg (fun v d G H Q b r p qq => by
  subst p
  exact ⟨1, r.int_inv, qq _ (.int (-1)) G H (Up.refl b) (.int _) rfl⟩) (de_int (i := 1))
end
section
variable {P : Program} {w : World} {K : PySem.W.Frag} {mg : Str → Option Value} {base : Heap}
theorem sc_law_fine : FnScope namesF ["_law_setup", "_law_state"] (defScope (top 86)) := ⟨rfl, rfl, rfl, by decide +kernel, rfl, by decide +kernel, by decide +kernel⟩
theorem cal_law_fine (T : Txt K mg) : Cal P w K mg base "_law_fine" 2 ["_law_setup", "_law_state"] (spT K J0 (fun a : Setup × State => [.tup [enc a.1.1, enc a.1.2.1, .ptup (a.1.2.2.map enc)], enc a.2]) (fun a => SW a.1 ∧ Ls a.1 a.2) (fun a d => d = .bl (fineB a.1 a.2))) := by
  refine cal_of T.d_law_fine fun f fd F => fn_ok F sc_law_fine (fun _ => rfl) fun cdv A outer s H E a hr pre => ?_
  obtain ⟨S, log, heard, logs, bank, letters⟩ := a
  obtain ⟨wf, ls⟩ := pre
  have wf' : SW S := wf
  have ls' : Ls S (log, heard, logs, bank, letters) := ls
  have z1 : log.length ≤ 1000 := ls'.l1
  have z2 : logs.length = (housesIn S).length := ls'.l2
  have z3 : ∀ g ∈ logs, g.length ≤ 1000 := ls'.l3
  have z4 : bank.length ≤ 1000 := ls'.l4
  have l1 : S.1.length ≤ 3 := wf'.l1
  have l2 : S.2.1.length ≤ 3 := wf'.l2
  have l3 : S.2.2.length ≤ 2 := wf'.l3
  have hh : (housesIn S).length ≤ 2 := wf'.hh
  rw [startE_lit 34 rfl]
  show DB _ _ (.d (.tup [enc S.1, enc S.2.1, .ptup (S.2.2.map enc)]) :: .d (enc (log, heard, logs, bank, letters)) :: .no :: .no :: .no :: .no :: .no :: .no :: .no :: .no :: .no :: .no :: .no :: .no :: .no :: .no :: .no :: .no :: .no :: .no :: .no :: .no :: .no :: .no :: .no :: .no :: .no :: .no :: .no :: .no :: .no :: .no :: .no :: .no :: .no :: .no :: []) _ _ (fun d => d = .bl (fineB S (log, heard, logs, bank, letters)))
  refine db_cons (ds_unpE (ds := [enc S.1, enc S.2.1, .ptup (S.2.2.map enc)]) [2, 3, 4] (de_var (i := 0) rfl) rfl ?a0 (pg_tup rfl (pgs_cons (pg_name (i := 2) sc_law_fine.nd rfl (Or.inl rfl)) (pgs_cons (pg_name (i := 3) sc_law_fine.nd rfl (Or.inl rfl)) (pgs_cons (pg_name (i := 4) sc_law_fine.nd rfl (Or.inl rfl)) pgs_nil)))))
  show DB _ _ (.d (.tup [enc S.1, enc S.2.1, .ptup (S.2.2.map enc)]) :: .d (enc (log, heard, logs, bank, letters)) :: .d (enc S.1) :: .d (enc S.2.1) :: .d (.ptup (S.2.2.map enc)) :: .no :: .no :: .no :: .no :: .no :: .no :: .no :: .no :: .no :: .no :: .no :: .no :: .no :: .no :: .no :: .no :: .no :: .no :: .no :: .no :: .no :: .no :: .no :: .no :: .no :: .no :: .no :: .no :: .no :: .no :: .no :: []) _ _ _
  have f0 : freeKv S (uD S logs (S.2.1.take 0) (fun _ => 0)) = S.1.map fun s => (s.1, .int s.2.2) := by unfold freeKv; exact List.map_congr_left fun s _ => by show (s.1, D.int (s.2.2 - 0)) = _; rw [Int.sub_zero]
  have w0 : withKv S (vD bank (S.2.1.take 0) (fun _ => 0)) = S.2.2.map fun s => (s.1, .int s.2) := by unfold withKv; exact List.map_congr_left fun s _ => by show (s.1, D.int (s.2 - 0)) = _; rw [Int.sub_zero]
  refine db_consM (ds_par3 (i := 6) (j := 7) (l := 8) (P := fun l => l = [.d (encL (hin (S.1.take 0) [])), .own (.dct (wd (freeKv S (uD S logs (S.2.1.take 0) (fun _ => 0))))), .own (.dct (wd (withKv S (vD bank (S.2.1.take 0) (fun _ => 0)))))]) (Φ := fun env => env = (.d (.tup [enc S.1, enc S.2.1, .ptup (S.2.2.map enc)]) :: .d (enc (log, heard, logs, bank, letters)) :: .d (enc S.1) :: .d (enc S.2.1) :: .d (.ptup (S.2.2.map enc)) :: .no :: .d (encL (hin (S.1.take 0) [])) :: .own (.dct (wd (freeKv S (uD S logs (S.2.1.take 0) (fun _ => 0))))) :: .own (.dct (wd (withKv S (vD bank (S.2.1.take 0) (fun _ => 0))))) :: .no :: .no :: .no :: .no :: .no :: .no :: .no :: .no :: .no :: .no :: .no :: .no :: .no :: .no :: .no :: .no :: .no :: .no :: .no :: .no :: .no :: .no :: .no :: .no :: .no :: .no :: .no :: [])) ?b1 sc_law_fine.nd ?b2) ?b3
  case b1 =>
    refine das_cons (se_d (de_fe df_nil)) (das_cons ?b11 (das_cons ?b12 as_nil))
    case b11 =>
      rw [f0]
      refine se_dictL T.f_dict (DE.cast (d := .lst (S.1.map fun s => .tup [enc s.1, .int s.2.2])) (de_fe (df_lc0 (xs := S.1) (f := enc) (g := fun s => .tup [enc s.1, .int s.2.2]) (t := .nm 5) (own := [("_law_one", 5)]) (di_tup (de_var (i := 2) rfl)) rfl sc_law_fine.nd (blkOk_by (N := namesF) (sc := defScope (top 86)) (by decide +kernel)) (by decide) (fun _ _ _ _ _ => (pg_name (i := 5) sc_law_fine.nd rfl (Or.inl rfl))) (fun _ => .nm _ _ _) (fun _ _ _ _ _ x hx => (de_tup (da_cons (de_ixn 0 (de_var (i := 5) rfl) rfl) (da_cons (de_ixn 2 (de_var (i := 5) rfl) rfl) da_nil)))) (small (m := 3) l1))) (by rw [List.map_map]; rfl)) (by rw [List.map_map]; exact wf'.sn)
    case b12 =>
      rw [w0]
      exact se_dictT T.f_dict (DE.cast (d := .ptup (S.2.2.map enc)) (de_var (i := 4) rfl) (by rw [List.map_map]; rfl)) (by rw [List.map_map]; exact wf'.bn)
  case b2 =>
    rintro _ rfl
    exact ⟨_, _, _, rfl, rfl⟩
  rintro _ rfl
  refine db_cons (ds_for (xs := S.1) (f := enc) (t := .nm 5) (di_tup (de_var (i := 2) rfl)) (fun i env => ∃ x5, env = (.d (.tup [enc S.1, enc S.2.1, .ptup (S.2.2.map enc)]) :: .d (enc (log, heard, logs, bank, letters)) :: .d (enc S.1) :: .d (enc S.2.1) :: .d (.ptup (S.2.2.map enc)) :: x5 :: .d (encL (hin (S.1.take i) [])) :: .own (.dct (wd (freeKv S (uD S logs (S.2.1.take 0) (fun _ => 0))))) :: .own (.dct (wd (withKv S (vD bank (S.2.1.take 0) (fun _ => 0))))) :: .no :: .no :: .no :: .no :: .no :: .no :: .no :: .no :: .no :: .no :: .no :: .no :: .no :: .no :: .no :: .no :: .no :: .no :: .no :: .no :: .no :: .no :: .no :: .no :: .no :: .no :: .no :: [])) ⟨_, rfl⟩ ?c1 ?c2 ?c3 PassesOwn.never)
  case c3 => exact (pg_name (i := 5) sc_law_fine.nd rfl (Or.inl rfl))
  case c1 =>
    rintro i x _ hx ⟨x5, rfl⟩
    refine ⟨_, .nm _ _ _, ?_⟩
    show DB _ _ (.d (.tup [enc S.1, enc S.2.1, .ptup (S.2.2.map enc)]) :: .d (enc (log, heard, logs, bank, letters)) :: .d (enc S.1) :: .d (enc S.2.1) :: .d (.ptup (S.2.2.map enc)) :: .d (enc x) :: .d (encL (hin (S.1.take i) [])) :: .own (.dct (wd (freeKv S (uD S logs (S.2.1.take 0) (fun _ => 0))))) :: .own (.dct (wd (withKv S (vD bank (S.2.1.take 0) (fun _ => 0))))) :: .no :: .no :: .no :: .no :: .no :: .no :: .no :: .no :: .no :: .no :: .no :: .no :: .no :: .no :: .no :: .no :: .no :: .no :: .no :: .no :: .no :: .no :: .no :: .no :: .no :: .no :: .no :: []) _ _ _
    have eh : hin (S.1.take (i + 1)) [] = if x.2.1 ∈ hin (S.1.take i) [] then hin (S.1.take i) [] else hin (S.1.take i) [] ++ [x.2.1] := by
      rw [take_succ_of hx]; unfold hin; rw [List.foldl_append]; rfl
    have hl := hin_len (S.1.take i) []
    rw [List.length_take] at hl
    generalize hin (S.1.take i) [] = hs at eh hl
    refine db_cons (ds_set (i := 6) (P := fun d => d = encL (hin (S.1.take (i + 1)) [])) (de_if (dt_in hr (x := x.2.1) (ys := hs) (de_ixn 1 (de_var (i := 5) rfl) rfl) (de_var (i := 6) rfl) (.lst _)) (fun h => ?_) (fun h => ?_)) ?_ sc_law_fine.nd)
    · rw [decide_eq_true_eq] at h
      rw [eh, if_pos h]
      exact (de_var (i := 6) rfl)
    · rw [decide_eq_false_iff_not] at h
      rw [eh, if_neg h]
      refine DE.cast (de_catL (xs := hs.map enc) (ys := [enc x.2.1]) (de_var (i := 6) rfl) (de_fe (df_lst (da_cons (de_ixn 1 (de_var (i := 5) rfl) rfl) da_nil))) ?_) (by rw [← List.map_singleton, ← List.map_append])
      rw [List.length_map]
      exact Nat.le_of_lt (small (m := 10) (by show hs.length + 1 ≤ 10; simp at hl; omega))
    · rintro _ rfl
      exact db_nil ⟨_, rfl⟩
  rintro _ ⟨x5, rfl⟩
  rw [List.take_length]
  show DB _ _ (.d (.tup [enc S.1, enc S.2.1, .ptup (S.2.2.map enc)]) :: .d (enc (log, heard, logs, bank, letters)) :: .d (enc S.1) :: .d (enc S.2.1) :: .d (.ptup (S.2.2.map enc)) :: x5 :: .d (encL (housesIn S)) :: .own (.dct (wd (freeKv S (uD S logs (S.2.1.take 0) (fun _ => 0))))) :: .own (.dct (wd (withKv S (vD bank (S.2.1.take 0) (fun _ => 0))))) :: .no :: .no :: .no :: .no :: .no :: .no :: .no :: .no :: .no :: .no :: .no :: .no :: .no :: .no :: .no :: .no :: .no :: .no :: .no :: .no :: .no :: .no :: .no :: .no :: .no :: .no :: .no :: []) _ _ _
  refine db_cons (ds_setD (i := 9) (d := .dct (wd (S.1.map fun s => (s.1, enc s.2.1)))) (de_dictL T.f_dict (DE.cast (d := .lst (S.1.map fun s => .tup [enc s.1, enc s.2.1])) (de_fe (df_lc0 (xs := S.1) (f := enc) (g := fun s => .tup [enc s.1, enc s.2.1]) (t := .nm 5) (own := [("_law_one", 5)]) (di_tup (de_var (i := 2) rfl)) rfl sc_law_fine.nd (blkOk_by (N := namesF) (sc := defScope (top 86)) (by decide +kernel)) (by decide) (fun _ _ _ _ _ => (pg_name (i := 5) sc_law_fine.nd rfl (Or.inl rfl))) (fun _ => .nm _ _ _) (fun _ _ _ _ _ x hx => (de_tup (da_cons (de_ixn 0 (de_var (i := 5) rfl) rfl) (da_cons (de_ixn 1 (de_var (i := 5) rfl) rfl) da_nil)))) (small (m := 3) l1))) (by rw [List.map_map]; rfl)) (by rw [List.map_map]; exact wf'.sn)) sc_law_fine.nd ?d0)
  show DB _ _ (.d (.tup [enc S.1, enc S.2.1, .ptup (S.2.2.map enc)]) :: .d (enc (log, heard, logs, bank, letters)) :: .d (enc S.1) :: .d (enc S.2.1) :: .d (.ptup (S.2.2.map enc)) :: x5 :: .d (encL (housesIn S)) :: .own (.dct (wd (freeKv S (uD S logs (S.2.1.take 0) (fun _ => 0))))) :: .own (.dct (wd (withKv S (vD bank (S.2.1.take 0) (fun _ => 0))))) :: .d (.dct (wd (S.1.map fun s => (s.1, enc s.2.1)))) :: .no :: .no :: .no :: .no :: .no :: .no :: .no :: .no :: .no :: .no :: .no :: .no :: .no :: .no :: .no :: .no :: .no :: .no :: .no :: .no :: .no :: .no :: .no :: .no :: .no :: .no :: []) _ _ _
  refine db_cons (ds_for (xs := S.2.1) (f := enc) (t := .tp [10, 11, 12, 13]) (di_tup (de_var (i := 3) rfl)) (fun i env => ∃ x10 x11 x12 x13 x14 x15 x16 x17 x18 x19 x20 x21 x22 x23 x24 x25 x26 x27 x28 x29 x30 x31 x32, (∀ d ∈ S.2.1.take i, dealFineB S (log, heard, logs, bank, letters) d = true) ∧ env = (.d (.tup [enc S.1, enc S.2.1, .ptup (S.2.2.map enc)]) :: .d (enc (log, heard, logs, bank, letters)) :: .d (enc S.1) :: .d (enc S.2.1) :: .d (.ptup (S.2.2.map enc)) :: x5 :: .d (encL (housesIn S)) :: .own (.dct (wd (freeKv S (uD S logs (S.2.1.take i) (fun _ => 0))))) :: .own (.dct (wd (withKv S (vD bank (S.2.1.take i) (fun _ => 0))))) :: .d (.dct (wd (S.1.map fun s => (s.1, enc s.2.1)))) :: x10 :: x11 :: x12 :: x13 :: x14 :: x15 :: x16 :: x17 :: x18 :: x19 :: x20 :: x21 :: x22 :: x23 :: x24 :: x25 :: x26 :: x27 :: x28 :: x29 :: x30 :: x31 :: x32 :: .no :: .no :: .no :: [])) ⟨.no, .no, .no, .no, .no, .no, .no, .no, .no, .no, .no, .no, .no, .no, .no, .no, .no, .no, .no, .no, .no, .no, .no, fun d hd => (by cases hd), rfl⟩ ?f1 ?f2 ?f3 PassesOwn.never)
  case f3 => exact (pg_tup rfl (pgs_cons (pg_name (i := 10) sc_law_fine.nd rfl (Or.inr rfl)) (pgs_cons (pg_name (i := 11) sc_law_fine.nd rfl (Or.inl rfl)) (pgs_cons (pg_name (i := 12) sc_law_fine.nd rfl (Or.inl rfl)) (pgs_cons (pg_name (i := 13) sc_law_fine.nd rfl (Or.inl rfl)) pgs_nil)))))
  case f2 =>
    rintro _ ⟨x10, x11, x12, x13, x14, x15, x16, x17, x18, x19, x20, x21, x22, x23, x24, x25, x26, x27, x28, x29, x30, x31, x32, hall, rfl⟩
    rw [List.take_length] at hall ⊢
    show DB _ _ (.d (.tup [enc S.1, enc S.2.1, .ptup (S.2.2.map enc)]) :: .d (enc (log, heard, logs, bank, letters)) :: .d (enc S.1) :: .d (enc S.2.1) :: .d (.ptup (S.2.2.map enc)) :: x5 :: .d (encL (housesIn S)) :: .own (.dct (wd (freeKv S (uD S logs S.2.1 (fun _ => 0))))) :: .own (.dct (wd (withKv S (vD bank S.2.1 (fun _ => 0))))) :: .d (.dct (wd (S.1.map fun s => (s.1, enc s.2.1)))) :: x10 :: x11 :: x12 :: x13 :: x14 :: x15 :: x16 :: x17 :: x18 :: x19 :: x20 :: x21 :: x22 :: x23 :: x24 :: x25 :: x26 :: x27 :: x28 :: x29 :: x30 :: x31 :: x32 :: .no :: .no :: .no :: []) _ _ _
    refine db_cons (ds_retD (d := .bl (zeroB (S.1.map fun s => s.2.2 - uD S logs S.2.1 (fun _ => 0) s.1) && zeroB (S.2.2.map fun b => b.2 - vD bank S.2.1 (fun _ => 0) b.1))) (de_and ?mA fun _ => (de_one ?mB)) ?mC)
    case mA =>
      refine (de_eq hr (x := ((S.1.map fun s => s.2.2 - uD S logs S.2.1 (fun _ => 0) s.1).foldl min 0)) (y := (0 : Int)) (de_min hr T.f_min (n := 0) (ns := S.1.map fun s => s.2.2 - uD S logs S.2.1 (fun _ => 0) s.1) (de_catL (xs := [.int 0]) (ys := (S.1.map fun s => s.2.2 - uD S logs S.2.1 (fun _ => 0) s.1).map D.int) (de_fe (df_lst (da_cons de_int da_nil))) (DE.cast (d := .lst ((freeKv S (uD S logs S.2.1 (fun _ => 0))).map (·.2))) (de_fe (df_listVals T.f_list (de_var (i := 7) rfl))) ?m7) ?m7l) (.lst _)) de_int)
      case m7 => rw [freeKv, List.map_map, List.map_map]; rfl
      case m7l => exact Nat.le_of_lt (small (m := 10) (by rw [List.length_map, List.length_map]; show 1 + S.1.length ≤ 10; omega))
    case mB =>
      refine (de_eq hr (x := ((S.2.2.map fun b => b.2 - vD bank S.2.1 (fun _ => 0) b.1).foldl min 0)) (y := (0 : Int)) (de_min hr T.f_min (n := 0) (ns := S.2.2.map fun b => b.2 - vD bank S.2.1 (fun _ => 0) b.1) (de_catL (xs := [.int 0]) (ys := (S.2.2.map fun b => b.2 - vD bank S.2.1 (fun _ => 0) b.1).map D.int) (de_fe (df_lst (da_cons de_int da_nil))) (DE.cast (d := .lst ((withKv S (vD bank S.2.1 (fun _ => 0))).map (·.2))) (de_fe (df_listVals T.f_list (de_var (i := 8) rfl))) ?m8) ?m8l) (.lst _)) de_int)
      case m8 => rw [withKv, List.map_map, List.map_map]; rfl
      case m8l => exact Nat.le_of_lt (small (m := 10) (by rw [List.length_map, List.length_map]; show 1 + S.2.2.length ≤ 10; omega))
    case mC =>
      have z : S.2.1.all (dealFineB S (log, heard, logs, bank, letters)) = true := List.all_eq_true.mpr hall
      show D.bl _ = D.bl (fineB S (log, heard, logs, bank, letters))
      unfold fineB
      rw [z, Bool.true_and]
  rintro i d _ hdi ⟨x10, x11, x12, x13, x14, x15, x16, x17, x18, x19, x20, x21, x22, x23, x24, x25, x26, x27, x28, x29, x30, x31, x32, hall, rfl⟩
  have hd : d ∈ S.2.1 := List.mem_of_getElem? hdi
  refine ⟨_, .tp _ _ _ rfl, ?_⟩
  have eu : uD S logs (S.2.1.take (i + 1)) (fun _ => 0) = uP S (rowAt (rowsF S logs d.1)) d.2.2.1 (uD S logs (S.2.1.take i) (fun _ => 0)) := by rw [take_succ_of hdi, uD_snoc]
  have ev : vD bank (S.2.1.take (i + 1)) (fun _ => 0) = addU (vD bank (S.2.1.take i) (fun _ => 0)) d.2.1 (if bndB (rowOf bank d.1) = true then d.2.2.2 else 0) := by rw [take_succ_of hdi, vD_snoc]
  rw [eu, ev]
  generalize uD S logs (S.2.1.take i) (fun _ => 0) = u
  generalize vD bank (S.2.1.take i) (fun _ => 0) = v
  clear eu ev
  show DB _ _ (.d (.tup [enc S.1, enc S.2.1, .ptup (S.2.2.map enc)]) :: .d (enc (log, heard, logs, bank, letters)) :: .d (enc S.1) :: .d (enc S.2.1) :: .d (.ptup (S.2.2.map enc)) :: x5 :: .d (encL (housesIn S)) :: .own (.dct (wd (freeKv S u))) :: .own (.dct (wd (withKv S v))) :: .d (.dct (wd (S.1.map fun s => (s.1, enc s.2.1)))) :: .d (enc d.1) :: .d (enc d.2.1) :: .d (enc d.2.2.1) :: .d (.int d.2.2.2) :: x14 :: x15 :: x16 :: x17 :: x18 :: x19 :: x20 :: x21 :: x22 :: x23 :: x24 :: x25 :: x26 :: x27 :: x28 :: x29 :: x30 :: x31 :: x32 :: .no :: .no :: .no :: []) _ _ _
  refine db_consM (ds_par3 (i := 14) (j := 15) (l := 16) (P := fun l => l = [.d (encL (rowOf log d.1)), .d (encL (rowOf bank d.1)), .d (.lst [])]) (Φ := fun env => env = (.d (.tup [enc S.1, enc S.2.1, .ptup (S.2.2.map enc)]) :: .d (enc (log, heard, logs, bank, letters)) :: .d (enc S.1) :: .d (enc S.2.1) :: .d (.ptup (S.2.2.map enc)) :: x5 :: .d (encL (housesIn S)) :: .own (.dct (wd (freeKv S u))) :: .own (.dct (wd (withKv S v))) :: .d (.dct (wd (S.1.map fun s => (s.1, enc s.2.1)))) :: .d (enc d.1) :: .d (enc d.2.1) :: .d (enc d.2.2.1) :: .d (.int d.2.2.2) :: .d (encL (rowOf log d.1)) :: .d (encL (rowOf bank d.1)) :: .d (.lst []) :: x17 :: x18 :: x19 :: x20 :: x21 :: x22 :: x23 :: x24 :: x25 :: x26 :: x27 :: x28 :: x29 :: x30 :: x31 :: x32 :: .no :: .no :: .no :: [])) (das_cons (se_d (c_law_words T (hr.mono (by decide)) (x := log) (y := d.1) (de_ixn 0 (ds := [enc log, enc heard, enc logs, enc bank, enc letters]) (de_var (i := 1) rfl) rfl) (de_var (i := 10) rfl) z1)) (das_cons (se_d (c_law_words T (hr.mono (by decide)) (x := bank) (y := d.1) (de_ixn 3 (ds := [enc log, enc heard, enc logs, enc bank, enc letters]) (de_var (i := 1) rfl) rfl) (de_var (i := 10) rfl) z4)) (das_cons (se_d (de_fe df_nil)) as_nil))) sc_law_fine.nd ?g1) ?g2
  case g1 =>
    rintro _ rfl
    exact ⟨_, _, _, rfl, rfl⟩
  rintro _ rfl
  have bad : dealFineB S (log, heard, logs, bank, letters) d = false → D.bl false = D.bl (fineB S (log, heard, logs, bank, letters)) := fun h => by rw [fine_bad hd h]
  have eB : dealFineB S (log, heard, logs, bank, letters) d = (decide (rowOf log d.1 ∈ waysL) && (((housesIn S).all fun h => !ownBad S d (rowAt (rowsF S logs d.1)) h) && (((alikes S (rowAt (rowsF S logs d.1)) (rowOf bank d.1)).all (alikeB (rowOf log d.1))) && ((ends S d (rowAt (rowsF S logs d.1)) (rowOf bank d.1)).all (endQ (rowOf log d.1)))))) := rfl
  refine db_cons ?_
  refine ds_setD (i := 17) (d := .lst (ways0.map encL)) ?g3a ?g3b ?g3
  case g3a => exact de_ways
  case g3b => exact sc_law_fine.nd
  show DB _ _ (.d (.tup [enc S.1, enc S.2.1, .ptup (S.2.2.map enc)]) :: .d (enc (log, heard, logs, bank, letters)) :: .d (enc S.1) :: .d (enc S.2.1) :: .d (.ptup (S.2.2.map enc)) :: x5 :: .d (encL (housesIn S)) :: .own (.dct (wd (freeKv S u))) :: .own (.dct (wd (withKv S v))) :: .d (.dct (wd (S.1.map fun s => (s.1, enc s.2.1)))) :: .d (enc d.1) :: .d (enc d.2.1) :: .d (enc d.2.2.1) :: .d (.int d.2.2.2) :: .d (encL (rowOf log d.1)) :: .d (encL (rowOf bank d.1)) :: .d (.lst []) :: .d (.lst (ways0.map encL)) :: x18 :: x19 :: x20 :: x21 :: x22 :: x23 :: x24 :: x25 :: x26 :: x27 :: x28 :: x29 :: x30 :: x31 :: x32 :: .no :: .no :: .no :: []) _ _ _
  refine db_cons ?_
  refine ds_setD (i := 18) (d := encL longL) ?g4a ?g4b ?g4
  case g4a => exact de_long
  case g4b => exact sc_law_fine.nd
  show DB _ _ (.d (.tup [enc S.1, enc S.2.1, .ptup (S.2.2.map enc)]) :: .d (enc (log, heard, logs, bank, letters)) :: .d (enc S.1) :: .d (enc S.2.1) :: .d (.ptup (S.2.2.map enc)) :: x5 :: .d (encL (housesIn S)) :: .own (.dct (wd (freeKv S u))) :: .own (.dct (wd (withKv S v))) :: .d (.dct (wd (S.1.map fun s => (s.1, enc s.2.1)))) :: .d (enc d.1) :: .d (enc d.2.1) :: .d (enc d.2.2.1) :: .d (.int d.2.2.2) :: .d (encL (rowOf log d.1)) :: .d (encL (rowOf bank d.1)) :: .d (.lst []) :: .d (.lst (ways0.map encL)) :: .d (encL longL) :: x19 :: x20 :: x21 :: x22 :: x23 :: x24 :: x25 :: x26 :: x27 :: x28 :: x29 :: x30 :: x31 :: x32 :: .no :: .no :: .no :: []) _ _ _
  refine db_cons (ds_if (dt_ninL hr (x := rowOf log d.1) (ys := waysL) (de_var (i := 14) rfl) (DE.cast (d := .lst (ways0.map encL ++ (List.range 4).map fun i => encL (longL.take (2 + i)))) (de_catL (xs := ways0.map encL) (ys := (List.range 4).map fun i => encL (longL.take (2 + i))) (de_var (i := 17) rfl) (de_fe ?lc) ?ll) ?cc)) (fun h => ?h1) (fun h => ?h2))
  case lc => exact (df_lc0 (xs := List.range 4) (f := fun i => .int (2 + (i : Nat))) (g := fun i => encL (longL.take (2 + i))) (t := .nm 34) (own := [("_law_at", 34)]) (ip_range2 T.f_range de_int de_int (by decide)) rfl sc_law_fine.nd (blkOk_by (N := namesF) (sc := defScope (top 86)) (by decide +kernel)) (by decide) (fun _ _ _ _ _ => (pg_name (i := 34) sc_law_fine.nd rfl (Or.inl rfl))) (fun _ => .nm _ _ _) (fun _ _ _ _ _ x hx => (DE.cast (d := .lst (cutD (longL.map enc) none (some (2 + (x : Nat))))) (de_fe (df_slL (ds := longL.map enc) (de_var (i := 18) rfl) po0 (po1 (i := 2 + (x : Nat)) (de_var (i := 34) rfl)))) (by have z := cut_take (longL.map (enc : W → D)) (2 + x); show D.lst _ = D.lst _; rw [List.map_take]; exact congrArg D.lst z))) (by decide))
  case ll => decide
  case cc => unfold waysL; rw [List.map_append, List.map_map]; rfl
  case h1 =>
    refine db_cons (ds_retD de_bl (bad ?_))
    rw [Bool.not_eq_true'] at h
    rw [eB, h, Bool.false_and]
  rw [Bool.not_eq_false'] at h
  rw [h, Bool.true_and] at eB
  clear h
  refine db_nil ?_
  refine db_cons (ds_setD (i := 20) (d := .dct (wd ((rowsF S logs d.1).map fun p => (p.1, encL p.2)))) (de_dictL T.f_dict (DE.cast (d := .lst (((housesIn S).zip logs).map fun p => .tup [enc p.1, encL (rowOf p.2 d.1)])) (de_fe ?r1) ?r2) ?r3) sc_law_fine.nd ?r4)
  case r1 => exact (df_lc0 (xs := (housesIn S).zip logs) (f := fun p => .tup [enc p.1, enc p.2]) (g := fun p => .tup [enc p.1, encL (rowOf p.2 d.1)]) (t := .tp [19, 33]) (own := [("_law_house", 19), ("_law_log", 33)]) (di_zipW T.f_zip (de_var (i := 6) rfl) (de_ixn 2 (ds := [enc log, enc heard, enc logs, enc bank, enc letters]) (de_var (i := 1) rfl) rfl) (.lst _) (.tup _)) rfl sc_law_fine.nd (blkOk_by (N := namesF) (sc := defScope (top 86)) (by decide +kernel)) (by decide) (fun _ _ _ _ _ => (pg_tup rfl (pgs_cons (pg_name (i := 19) sc_law_fine.nd rfl (Or.inl rfl)) (pgs_cons (pg_name (i := 33) sc_law_fine.nd rfl (Or.inl rfl)) pgs_nil)))) (fun _ => .tp _ _ _ rfl) (fun _ _ _ _ _ x hx => (de_tup (da_cons (de_var (i := 19) rfl) (da_cons (by refine c_law_words T ?_ (x := x.2) (y := d.1) ?_ ?_ (z3 _ (List.of_mem_zip hx).2) ; exact hr.mono (by decide); exact (de_var (i := 33) rfl); exact (de_var (i := 10) rfl)) da_nil)))) (small (m := 10) (by rw [List.length_zip]; omega)))
  case r2 => unfold rowsF; rw [List.map_map, List.map_map]; rfl
  case r3 =>
    rw [List.map_map]
    show ((rowsF S logs d.1).map (·.1)).Nodup
    rw [rowsF_keys z2]
    exact houses_nodup S
  show DB _ _ (.d (.tup [enc S.1, enc S.2.1, .ptup (S.2.2.map enc)]) :: .d (enc (log, heard, logs, bank, letters)) :: .d (enc S.1) :: .d (enc S.2.1) :: .d (.ptup (S.2.2.map enc)) :: x5 :: .d (encL (housesIn S)) :: .own (.dct (wd (freeKv S u))) :: .own (.dct (wd (withKv S v))) :: .d (.dct (wd (S.1.map fun s => (s.1, enc s.2.1)))) :: .d (enc d.1) :: .d (enc d.2.1) :: .d (enc d.2.2.1) :: .d (.int d.2.2.2) :: .d (encL (rowOf log d.1)) :: .d (encL (rowOf bank d.1)) :: .d (.lst []) :: .d (.lst (ways0.map encL)) :: .d (encL longL) :: x19 :: .d (.dct (wd ((rowsF S logs d.1).map fun p => (p.1, encL p.2)))) :: x21 :: x22 :: x23 :: x24 :: x25 :: x26 :: x27 :: x28 :: x29 :: x30 :: x31 :: x32 :: .no :: .no :: .no :: []) _ _ _
  have rlook : ∀ {h : W}, h ∈ housesIn S → lookW ((rowsF S logs d.1).map fun p => (p.1, encL p.2)) h = some (encL (rowAt (rowsF S logs d.1) h)) := fun {h} m => by
    obtain ⟨x, e⟩ := look_there (kvs := rowsF S logs d.1) (w := h) (by rw [rowsF_keys z2]; exact m)
    have z := lookW_map (f := (encL : List W → D)) (kvs := rowsF S logs d.1) (w := h)
    rw [e] at z
    unfold rowAt
    rw [e]
    exact z
  have hlook : ∀ {q : Prt}, q ∈ d.2.2.1 → lookW (S.1.map fun s => (s.1, enc s.2.1)) q.1 = some (enc (homeOf S q.1)) ∧ homeOf S q.1 ∈ housesIn S := fun {q} hq => by
    have z := look_home (wf'.pm d hd q hq)
    have y := lookW_map (f := (enc : W → D)) (kvs := S.1.map fun s => (s.1, s.2.1)) (w := q.1)
    rw [z, List.map_map] at y
    refine ⟨y, ?_⟩
    obtain ⟨s, hs, e1, e2⟩ := home_at wf' (wf'.pm d hd q hq) (rfl : homeOf S q.1 = homeOf S q.1)
    rw [← e2]
    exact house_mem hs
  generalize hrow : rowAt (rowsF S logs d.1) = row at eB rlook ⊢
  generalize hbk : rowOf bank d.1 = bk at eB ⊢
  generalize hsh : rowOf log d.1 = sh at eB ⊢
  refine db_cons (ds_for (xs := housesIn S) (f := enc) (t := .nm 19) (di_lst (de_var (i := 6) rfl)) (fun i2 env => ∃ x19 x21, (∀ h ∈ (housesIn S).take i2, ownBad S d row h = false) ∧ env = (.d (.tup [enc S.1, enc S.2.1, .ptup (S.2.2.map enc)]) :: .d (enc (log, heard, logs, bank, letters)) :: .d (enc S.1) :: .d (enc S.2.1) :: .d (.ptup (S.2.2.map enc)) :: x5 :: .d (encL (housesIn S)) :: .own (.dct (wd (freeKv S u))) :: .own (.dct (wd (withKv S v))) :: .d (.dct (wd (S.1.map fun s => (s.1, enc s.2.1)))) :: .d (enc d.1) :: .d (enc d.2.1) :: .d (enc d.2.2.1) :: .d (.int d.2.2.2) :: .d (encL sh) :: .d (encL bk) :: .d (.lst (((((housesIn S).take i2).filter (ownB S d)).map row).map encL)) :: .d (.lst (ways0.map encL)) :: .d (encL longL) :: x19 :: .d (.dct (wd ((rowsF S logs d.1).map fun p => (p.1, encL p.2)))) :: x21 :: x22 :: x23 :: x24 :: x25 :: x26 :: x27 :: x28 :: x29 :: x30 :: x31 :: x32 :: .no :: .no :: .no :: [])) ⟨x19, x21, fun h hh => (by cases hh), rfl⟩ ?i1 ?i2 ?i3 PassesOwn.never)
  case i3 => exact (pg_name (i := 19) sc_law_fine.nd rfl (Or.inr rfl))
  case i1 =>
    rintro i2 h _ hh2 ⟨x19, x21, hall2, rfl⟩
    have hm : h ∈ housesIn S := List.mem_of_getElem? hh2
    refine ⟨_, .nm _ _ _, ?_⟩
    show DB _ _ (.d (.tup [enc S.1, enc S.2.1, .ptup (S.2.2.map enc)]) :: .d (enc (log, heard, logs, bank, letters)) :: .d (enc S.1) :: .d (enc S.2.1) :: .d (.ptup (S.2.2.map enc)) :: x5 :: .d (encL (housesIn S)) :: .own (.dct (wd (freeKv S u))) :: .own (.dct (wd (withKv S v))) :: .d (.dct (wd (S.1.map fun s => (s.1, enc s.2.1)))) :: .d (enc d.1) :: .d (enc d.2.1) :: .d (enc d.2.2.1) :: .d (.int d.2.2.2) :: .d (encL sh) :: .d (encL bk) :: .d (.lst (((((housesIn S).take i2).filter (ownB S d)).map row).map encL)) :: .d (.lst (ways0.map encL)) :: .d (encL longL) :: .d (enc h) :: .d (.dct (wd ((rowsF S logs d.1).map fun p => (p.1, encL p.2)))) :: x21 :: x22 :: x23 :: x24 :: x25 :: x26 :: x27 :: x28 :: x29 :: x30 :: x31 :: x32 :: .no :: .no :: .no :: []) _ _ _
    refine db_cons (ds_setD (i := 21) (d := .bl (ownB S d h)) (DE.cast (d := .bl (!decide (d.2.2.1.filter (fun p => decide (homeOf S p.1 = h)) = []))) (de_neL hr (x := d.2.2.1.filter (fun p => decide (homeOf S p.1 = h))) (y := ([] : List Prt)) (de_fe ?j1) (de_fe df_nil)) rfl) sc_law_fine.nd ?j2)
    case j1 => exact (df_lc (xs := d.2.2.1) (f := enc) (p := fun p => decide (homeOf S p.1 = h)) (g := enc) (t := .nm 35) (own := [("_law_part", 35)]) (di_tup (de_var (i := 12) rfl)) rfl sc_law_fine.nd (blkOk_by (N := namesF) (sc := defScope (top 86)) (by decide +kernel)) (by decide) (fun _ _ _ _ _ => (pg_name (i := 35) sc_law_fine.nd rfl (Or.inl rfl))) (fun _ => .nm _ _ _) (fun _ _ _ _ _ x hx => dts_one (dt_eq hr (x := homeOf S x.1) (y := h) (de_dget (kvs := S.1.map fun s => (s.1, enc s.2.1)) hr (de_var (i := 9) rfl) (de_ixn 0 (de_var (i := 35) rfl) rfl) (hlook hx).1) (de_var (i := 19) rfl))) (fun _ _ _ _ _ x hx hp => (de_var (i := 35) rfl)) (small (m := 10) (by have := wf'.l4 d hd; omega)))
    show DB _ _ (.d (.tup [enc S.1, enc S.2.1, .ptup (S.2.2.map enc)]) :: .d (enc (log, heard, logs, bank, letters)) :: .d (enc S.1) :: .d (enc S.2.1) :: .d (.ptup (S.2.2.map enc)) :: x5 :: .d (encL (housesIn S)) :: .own (.dct (wd (freeKv S u))) :: .own (.dct (wd (withKv S v))) :: .d (.dct (wd (S.1.map fun s => (s.1, enc s.2.1)))) :: .d (enc d.1) :: .d (enc d.2.1) :: .d (enc d.2.2.1) :: .d (.int d.2.2.2) :: .d (encL sh) :: .d (encL bk) :: .d (.lst (((((housesIn S).take i2).filter (ownB S d)).map row).map encL)) :: .d (.lst (ways0.map encL)) :: .d (encL longL) :: .d (enc h) :: .d (.dct (wd ((rowsF S logs d.1).map fun p => (p.1, encL p.2)))) :: .d (.bl (ownB S d h)) :: x22 :: x23 :: x24 :: x25 :: x26 :: x27 :: x28 :: x29 :: x30 :: x31 :: x32 :: .no :: .no :: .no :: []) _ _ _
    refine db_cons (ds_setD (i := 16) (d := .lst (((((housesIn S).take (i2 + 1)).filter (ownB S d)).map row).map encL)) (DE.cast (d := .lst (((((housesIn S).take i2).filter (ownB S d)).map row).map encL ++ (if ownB S d h = true then [encL (row h)] else []))) (de_catL (xs := ((((housesIn S).take i2).filter (ownB S d)).map row).map encL) (ys := if ownB S d h = true then [encL (row h)] else []) (de_var (i := 16) rfl) (de_if (c1 := ownB S d h) (dt_val (de_var (i := 21) rfl)) (fun q => ?j3) (fun q => ?j4)) ?j5) ?j6) sc_law_fine.nd ?j7)
    case j3 =>
      rw [if_pos q]
      exact (de_fe (df_lst (da_cons (de_dget (kvs := (rowsF S logs d.1).map fun p => (p.1, encL p.2)) hr (de_var (i := 20) rfl) (de_var (i := 19) rfl) (rlook hm)) da_nil)))
    case j4 =>
      rw [if_neg (by rw [q]; decide)]
      exact (de_fe df_nil)
    case j5 =>
      refine Nat.le_of_lt (small (m := 10) ?_)
      rw [List.length_map, List.length_map]
      have y1 := List.length_filter_le (ownB S d) ((housesIn S).take i2)
      have y2 : (if ownB S d h = true then [encL (row h)] else []).length ≤ 1 := by split <;> simp
      rw [List.length_take] at y1
      omega
    case j6 =>
      rw [take_succ_of hh2, List.filter_append, List.map_append, List.map_append]
      by_cases q : ownB S d h = true
      · rw [if_pos q, List.filter_cons_of_pos q]; rfl
      · rw [if_neg q, List.filter_cons_of_neg q]; rfl
    show DB _ _ (.d (.tup [enc S.1, enc S.2.1, .ptup (S.2.2.map enc)]) :: .d (enc (log, heard, logs, bank, letters)) :: .d (enc S.1) :: .d (enc S.2.1) :: .d (.ptup (S.2.2.map enc)) :: x5 :: .d (encL (housesIn S)) :: .own (.dct (wd (freeKv S u))) :: .own (.dct (wd (withKv S v))) :: .d (.dct (wd (S.1.map fun s => (s.1, enc s.2.1)))) :: .d (enc d.1) :: .d (enc d.2.1) :: .d (enc d.2.2.1) :: .d (.int d.2.2.2) :: .d (encL sh) :: .d (encL bk) :: .d (.lst (((((housesIn S).take (i2 + 1)).filter (ownB S d)).map row).map encL)) :: .d (.lst (ways0.map encL)) :: .d (encL longL) :: .d (enc h) :: .d (.dct (wd ((rowsF S logs d.1).map fun p => (p.1, encL p.2)))) :: .d (.bl (ownB S d h)) :: x22 :: x23 :: x24 :: x25 :: x26 :: x27 :: x28 :: x29 :: x30 :: x31 :: x32 :: .no :: .no :: .no :: []) _ _ _
    refine db_cons (ds_if (b := ownBad S d row h) (dt_w (dw_and (dt_neL hr (x := row h) (y := ([] : List W)) (de_dget (kvs := (rowsF S logs d.1).map fun p => (p.1, encL p.2)) hr (de_var (i := 20) rfl) (de_var (i := 19) rfl) (rlook hm)) (de_fe df_nil)) fun _ => (dw_and1 (dt_not (dt_val (de_var (i := 21) rfl)))))) (fun q => ?j8) (fun q => ?j9))
    case j8 =>
      refine db_cons (ds_retD de_bl (bad ?_))
      rw [eB, all_bad hm (by rw [q]; rfl), Bool.false_and]
    exact db_nil (db_nil ⟨_, _, take_all hall2 q hh2, rfl⟩)
  rintro _ ⟨x19, x21, hown, rfl⟩
  rw [List.take_length] at hown ⊢
  show DB _ _ (.d (.tup [enc S.1, enc S.2.1, .ptup (S.2.2.map enc)]) :: .d (enc (log, heard, logs, bank, letters)) :: .d (enc S.1) :: .d (enc S.2.1) :: .d (.ptup (S.2.2.map enc)) :: x5 :: .d (encL (housesIn S)) :: .own (.dct (wd (freeKv S u))) :: .own (.dct (wd (withKv S v))) :: .d (.dct (wd (S.1.map fun s => (s.1, enc s.2.1)))) :: .d (enc d.1) :: .d (enc d.2.1) :: .d (enc d.2.2.1) :: .d (.int d.2.2.2) :: .d (encL sh) :: .d (encL bk) :: .d (.lst ((((housesIn S).filter (ownB S d)).map row).map encL)) :: .d (.lst (ways0.map encL)) :: .d (encL longL) :: x19 :: .d (.dct (wd ((rowsF S logs d.1).map fun p => (p.1, encL p.2)))) :: x21 :: x22 :: x23 :: x24 :: x25 :: x26 :: x27 :: x28 :: x29 :: x30 :: x31 :: x32 :: .no :: .no :: .no :: []) _ _ _
  have hown' : ((housesIn S).all fun h => !ownBad S d row h) = true := List.all_eq_true.mpr fun h hh => by rw [hown h hh]; rfl
  rw [hown', Bool.true_and] at eB
  clear hown hown'
  refine db_cons (ds_setLcO (i := 22) (xs := housesIn S) (f := enc) (g := fun h => .tup [encL (row h), encL (toldL houseT)]) (t := .nm 19) (own := [("_law_house", 19)]) (di_lst (de_var (i := 6) rfl)) sc_law_fine.nd (blkOk_by (N := namesF) (sc := defScope (top 86)) (by decide +kernel)) (by decide) (fun _ _ _ _ _ => (pg_name (i := 19) sc_law_fine.nd rfl (Or.inl rfl))) (fun _ => .nm _ _ _) (fun _ _ _ _ _ x hx => (de_tup (da_cons (de_dget (kvs := (rowsF S logs d.1).map fun p => (p.1, encL p.2)) hr (de_var (i := 20) rfl) (de_var (i := 19) rfl) (rlook hx)) (da_cons (DE.cast (de_fe (df_lst (da_cons (de_W .reserved) (da_cons (de_W .sent) (da_cons (de_W .released) (da_cons (de_W .back) da_nil)))))) rfl) da_nil)))) (small (m := 10) (by omega)) ?k2)
  show DB _ _ (.d (.tup [enc S.1, enc S.2.1, .ptup (S.2.2.map enc)]) :: .d (enc (log, heard, logs, bank, letters)) :: .d (enc S.1) :: .d (enc S.2.1) :: .d (.ptup (S.2.2.map enc)) :: x5 :: .d (encL (housesIn S)) :: .own (.dct (wd (freeKv S u))) :: .own (.dct (wd (withKv S v))) :: .d (.dct (wd (S.1.map fun s => (s.1, enc s.2.1)))) :: .d (enc d.1) :: .d (enc d.2.1) :: .d (enc d.2.2.1) :: .d (.int d.2.2.2) :: .d (encL sh) :: .d (encL bk) :: .d (.lst ((((housesIn S).filter (ownB S d)).map row).map encL)) :: .d (.lst (ways0.map encL)) :: .d (encL longL) :: x19 :: .d (.dct (wd ((rowsF S logs d.1).map fun p => (p.1, encL p.2)))) :: x21 :: .own (.lst ((housesIn S).map fun h => .tup [encL (row h), encL (toldL houseT)])) :: x23 :: x24 :: x25 :: x26 :: x27 :: x28 :: x29 :: x30 :: x31 :: x32 :: .no :: .no :: .no :: []) _ _ _
  refine db_cons (ds_appendD (i := 22) (d := .tup [encL bk, encL (toldL bankT)]) rfl (de_tup (da_cons (de_var (i := 15) rfl) (da_cons (DE.cast (de_fe (df_lst (da_cons (de_W .held) (da_cons (de_W .taken) (da_cons (de_W .freed) (da_cons (de_W .refunded) da_nil)))))) rfl) da_nil))) (small (m := 10) (by rw [List.length_map]; omega)) ?k3)
  have eal : ((((housesIn S).map fun h => .tup [encL (row h), encL (toldL houseT)]) : List D) ++ [D.tup [encL bk, encL (toldL bankT)]]) = (alikes S row bk).map fun q => .tup [encL q.1, encL (toldL q.2)] := by unfold alikes; rw [List.map_append, List.map_map]; rfl
  rw [eal]
  show DB _ _ (.d (.tup [enc S.1, enc S.2.1, .ptup (S.2.2.map enc)]) :: .d (enc (log, heard, logs, bank, letters)) :: .d (enc S.1) :: .d (enc S.2.1) :: .d (.ptup (S.2.2.map enc)) :: x5 :: .d (encL (housesIn S)) :: .own (.dct (wd (freeKv S u))) :: .own (.dct (wd (withKv S v))) :: .d (.dct (wd (S.1.map fun s => (s.1, enc s.2.1)))) :: .d (enc d.1) :: .d (enc d.2.1) :: .d (enc d.2.2.1) :: .d (.int d.2.2.2) :: .d (encL sh) :: .d (encL bk) :: .d (.lst ((((housesIn S).filter (ownB S d)).map row).map encL)) :: .d (.lst (ways0.map encL)) :: .d (encL longL) :: x19 :: .d (.dct (wd ((rowsF S logs d.1).map fun p => (p.1, encL p.2)))) :: x21 :: .own (.lst ((alikes S row bk).map fun q => .tup [encL q.1, encL (toldL q.2)])) :: x23 :: x24 :: x25 :: x26 :: x27 :: x28 :: x29 :: x30 :: x31 :: x32 :: .no :: .no :: .no :: []) _ _ _
  refine db_show 22 rfl ?_
  show DB _ _ (.d (.tup [enc S.1, enc S.2.1, .ptup (S.2.2.map enc)]) :: .d (enc (log, heard, logs, bank, letters)) :: .d (enc S.1) :: .d (enc S.2.1) :: .d (.ptup (S.2.2.map enc)) :: x5 :: .d (encL (housesIn S)) :: .own (.dct (wd (freeKv S u))) :: .own (.dct (wd (withKv S v))) :: .d (.dct (wd (S.1.map fun s => (s.1, enc s.2.1)))) :: .d (enc d.1) :: .d (enc d.2.1) :: .d (enc d.2.2.1) :: .d (.int d.2.2.2) :: .d (encL sh) :: .d (encL bk) :: .d (.lst ((((housesIn S).filter (ownB S d)).map row).map encL)) :: .d (.lst (ways0.map encL)) :: .d (encL longL) :: x19 :: .d (.dct (wd ((rowsF S logs d.1).map fun p => (p.1, encL p.2)))) :: x21 :: .d (.lst ((alikes S row bk).map fun q => .tup [encL q.1, encL (toldL q.2)])) :: x23 :: x24 :: x25 :: x26 :: x27 :: x28 :: x29 :: x30 :: x31 :: x32 :: .no :: .no :: .no :: []) _ _ _
  refine db_cons (ds_for (xs := alikes S row bk) (f := fun q => .tup [encL q.1, encL (toldL q.2)]) (t := .tp [23, 24]) (di_lst (de_var (i := 22) rfl)) (fun i2 env => ∃ x23 x24 x25 x26 x27 x28, (∀ q ∈ (alikes S row bk).take i2, alikeB sh q = true) ∧ env = (.d (.tup [enc S.1, enc S.2.1, .ptup (S.2.2.map enc)]) :: .d (enc (log, heard, logs, bank, letters)) :: .d (enc S.1) :: .d (enc S.2.1) :: .d (.ptup (S.2.2.map enc)) :: x5 :: .d (encL (housesIn S)) :: .own (.dct (wd (freeKv S u))) :: .own (.dct (wd (withKv S v))) :: .d (.dct (wd (S.1.map fun s => (s.1, enc s.2.1)))) :: .d (enc d.1) :: .d (enc d.2.1) :: .d (enc d.2.2.1) :: .d (.int d.2.2.2) :: .d (encL sh) :: .d (encL bk) :: .d (.lst ((((housesIn S).filter (ownB S d)).map row).map encL)) :: .d (.lst (ways0.map encL)) :: .d (encL longL) :: x19 :: .d (.dct (wd ((rowsF S logs d.1).map fun p => (p.1, encL p.2)))) :: x21 :: .d (.lst ((alikes S row bk).map fun q => .tup [encL q.1, encL (toldL q.2)])) :: x23 :: x24 :: x25 :: x26 :: x27 :: x28 :: x29 :: x30 :: x31 :: x32 :: .no :: .no :: .no :: [])) ⟨x23, x24, x25, x26, x27, x28, fun h hh => (by cases hh), rfl⟩ ?l1 ?l2 ?l3 PassesOwn.never)
  case l3 => exact (pg_tup rfl (pgs_cons (pg_name (i := 23) sc_law_fine.nd rfl (Or.inl rfl)) (pgs_cons (pg_name (i := 24) sc_law_fine.nd rfl (Or.inl rfl)) pgs_nil)))
  case l1 =>
    rintro i2 q _ hq ⟨x23, x24, x25, x26, x27, x28, hall2, rfl⟩
    have hm : q ∈ alikes S row bk := List.mem_of_getElem? hq
    refine ⟨_, .tp _ _ _ rfl, ?_⟩
    show DB _ _ (.d (.tup [enc S.1, enc S.2.1, .ptup (S.2.2.map enc)]) :: .d (enc (log, heard, logs, bank, letters)) :: .d (enc S.1) :: .d (enc S.2.1) :: .d (.ptup (S.2.2.map enc)) :: x5 :: .d (encL (housesIn S)) :: .own (.dct (wd (freeKv S u))) :: .own (.dct (wd (withKv S v))) :: .d (.dct (wd (S.1.map fun s => (s.1, enc s.2.1)))) :: .d (enc d.1) :: .d (enc d.2.1) :: .d (enc d.2.2.1) :: .d (.int d.2.2.2) :: .d (encL sh) :: .d (encL bk) :: .d (.lst ((((housesIn S).filter (ownB S d)).map row).map encL)) :: .d (.lst (ways0.map encL)) :: .d (encL longL) :: x19 :: .d (.dct (wd ((rowsF S logs d.1).map fun p => (p.1, encL p.2)))) :: x21 :: .d (.lst ((alikes S row bk).map fun q => .tup [encL q.1, encL (toldL q.2)])) :: .d (encL q.1) :: .d (encL (toldL q.2)) :: x25 :: x26 :: x27 :: x28 :: x29 :: x30 :: x31 :: x32 :: .no :: .no :: .no :: []) _ _ _
    refine db_cons (ds_unpL (ds := (toldL q.2).map enc) [25, 26, 27, 28] (de_var (i := 24) rfl) rfl ?m1 (pg_lst rfl (pgs_cons (pg_name (i := 25) sc_law_fine.nd rfl (Or.inl rfl)) (pgs_cons (pg_name (i := 26) sc_law_fine.nd rfl (Or.inl rfl)) (pgs_cons (pg_name (i := 27) sc_law_fine.nd rfl (Or.inl rfl)) (pgs_cons (pg_name (i := 28) sc_law_fine.nd rfl (Or.inl rfl)) pgs_nil))))))
    show DB _ _ (.d (.tup [enc S.1, enc S.2.1, .ptup (S.2.2.map enc)]) :: .d (enc (log, heard, logs, bank, letters)) :: .d (enc S.1) :: .d (enc S.2.1) :: .d (.ptup (S.2.2.map enc)) :: x5 :: .d (encL (housesIn S)) :: .own (.dct (wd (freeKv S u))) :: .own (.dct (wd (withKv S v))) :: .d (.dct (wd (S.1.map fun s => (s.1, enc s.2.1)))) :: .d (enc d.1) :: .d (enc d.2.1) :: .d (enc d.2.2.1) :: .d (.int d.2.2.2) :: .d (encL sh) :: .d (encL bk) :: .d (.lst ((((housesIn S).filter (ownB S d)).map row).map encL)) :: .d (.lst (ways0.map encL)) :: .d (encL longL) :: x19 :: .d (.dct (wd ((rowsF S logs d.1).map fun p => (p.1, encL p.2)))) :: x21 :: .d (.lst ((alikes S row bk).map fun q => .tup [encL q.1, encL (toldL q.2)])) :: .d (encL q.1) :: .d (encL (toldL q.2)) :: .d (enc q.2.k) :: .d (enc q.2.g) :: .d (enc q.2.d) :: .d (enc q.2.b) :: x29 :: x30 :: x31 :: x32 :: .no :: .no :: .no :: []) _ _ _
    have bad2 : alikeB sh q = false → D.bl false = D.bl (fineB S (log, heard, logs, bank, letters)) := fun e => bad (by rw [eB, all_bad hm e, Bool.false_and])
    have eA : alikeB sh q = (decide (q.1 ∈ rowsT q.2) && (!alikeB1 sh q.2 q.1 && !(decide (q.2.b ∈ q.1) && !decide (W.ret ∈ sh)))) := rfl
    refine db_cons (ds_if (dt_ninL hr (x := q.1) (ys := rowsT q.2) (de_var (i := 23) rfl) (DE.cast (de_fe (df_lst (da_cons (de_fe df_nil) (da_cons (de_fe (df_lst (da_cons (de_var (i := 25) rfl) da_nil))) (da_cons (de_fe (df_lst (da_cons (de_var (i := 27) rfl) da_nil))) (da_cons (de_fe (df_lst (da_cons (de_var (i := 25) rfl) (da_cons (de_var (i := 27) rfl) da_nil)))) (da_cons (de_fe (df_lst (da_cons (de_var (i := 25) rfl) (da_cons (de_var (i := 26) rfl) da_nil)))) (da_cons (de_fe (df_lst (da_cons (de_var (i := 25) rfl) (da_cons (de_var (i := 26) rfl) (da_cons (de_var (i := 28) rfl) da_nil))))) da_nil)))))))) rfl)) (fun h => ?m2) (fun h => ?m3))
    case m2 =>
      rw [Bool.not_eq_true'] at h
      exact db_cons (ds_retD de_bl (bad2 (by rw [eA, h, Bool.false_and])))
    rw [Bool.not_eq_false'] at h
    rw [h, Bool.true_and] at eA
    refine db_nil ?_
    refine db_cons (ds_if (b := alikeB1 sh q.2 q.1) (dt_w (dw_or (dt_w (dw_and (dt_in hr (x := q.2.g) (ys := q.1) (de_var (i := 26) rfl) (de_var (i := 23) rfl) (.lst _)) fun _ => (dw_and1 (dt_nin hr (x := W.go) (ys := sh) (de_W .go) (de_var (i := 14) rfl) (.lst _))))) fun _ => (dw_or1 (dt_w (dw_and (dt_in hr (x := q.2.d) (ys := q.1) (de_var (i := 27) rfl) (de_var (i := 23) rfl) (.lst _)) fun _ => (dw_and1 (dt_nin hr (x := W.drop) (ys := sh) (de_W .drop) (de_var (i := 14) rfl) (.lst _)))))))) (fun h2 => ?m4) (fun h2 => ?m5))
    case m4 => exact db_cons (ds_retD de_bl (bad2 (by rw [eA, h2]; rfl)))
    rw [h2, Bool.not_false, Bool.true_and] at eA
    refine db_nil ?_
    refine db_cons (ds_if (b := decide (q.2.b ∈ q.1) && !decide (W.ret ∈ sh)) (dt_w (dw_and (dt_in hr (x := q.2.b) (ys := q.1) (de_var (i := 28) rfl) (de_var (i := 23) rfl) (.lst _)) fun _ => (dw_and1 (dt_nin hr (x := W.ret) (ys := sh) (de_W .ret) (de_var (i := 14) rfl) (.lst _))))) (fun h3 => ?m6) (fun h3 => ?m7))
    case m6 => exact db_cons (ds_retD de_bl (bad2 (by rw [eA, h3]; rfl)))
    rw [h3, Bool.not_false] at eA
    exact db_nil (db_nil ⟨_, _, _, _, _, _, take_all hall2 eA hq, rfl⟩)
  rintro _ ⟨x23, x24, x25, x26, x27, x28, hal, rfl⟩
  rw [List.take_length] at hal
  have hal' : (alikes S row bk).all (alikeB sh) = true := List.all_eq_true.mpr hal
  rw [hal', Bool.true_and] at eB
  clear hal hal'
  refine db_cons (ds_setD (i := 29) (d := .lst ((ends S d row bk).map fun q => .tup [encL q.1, encL (toldL q.2)])) (DE.cast (d := .lst ((((housesIn S).filter (ownB S d)).map row).map (fun r => .tup [encL r, encL (toldL houseT)]) ++ [.tup [encL bk, encL (toldL bankT)]])) (de_catL (xs := (((housesIn S).filter (ownB S d)).map row).map (fun r => .tup [encL r, encL (toldL houseT)])) (ys := [.tup [encL bk, encL (toldL bankT)]]) (de_fe ?n1) (de_fe (df_lst (da_cons (de_tup (da_cons (de_var (i := 15) rfl) (da_cons (de_ixn 1 (ds := [encL bk, encL (toldL bankT)]) (de_ixL (ds := (alikes S row bk).map fun q => .tup [encL q.1, encL (toldL q.2)]) (i := -1) (de_var (i := 22) rfl) de_neg1 ?n2) rfl) da_nil))) da_nil))) ?n3) ?n4) sc_law_fine.nd ?n5)
  case n1 => exact (df_lc0 (xs := ((housesIn S).filter (ownB S d)).map row) (f := encL) (g := fun r => .tup [encL r, encL (toldL houseT)]) (t := .nm 23) (own := [("_law_words_here", 23)]) (di_lst (de_var (i := 16) rfl)) rfl sc_law_fine.nd (blkOk_by (N := namesF) (sc := defScope (top 86)) (by decide +kernel)) (by decide) (fun _ _ _ _ _ => (pg_name (i := 23) sc_law_fine.nd rfl (Or.inl rfl))) (fun _ => .nm _ _ _) (fun _ _ _ _ _ x hx => (de_tup (da_cons (de_var (i := 23) rfl) (da_cons (DE.cast (de_fe (df_lst (da_cons (de_W .reserved) (da_cons (de_W .sent) (da_cons (de_W .released) (da_cons (de_W .back) da_nil)))))) rfl) da_nil)))) (small (m := 10) (by rw [List.length_map]; have y1 := List.length_filter_le (ownB S d) (housesIn S); omega)))
  case n2 => rw [← eal]; exact atI_last _ _
  case n3 =>
    refine Nat.le_of_lt (small (m := 10) ?_)
    rw [List.length_map, List.length_map]
    have y1 := List.length_filter_le (ownB S d) (housesIn S)
    show _ + 1 ≤ 10
    omega
  case n4 => unfold ends; rw [List.map_append, List.map_map, List.map_map]; rfl
  show DB _ _ (.d (.tup [enc S.1, enc S.2.1, .ptup (S.2.2.map enc)]) :: .d (enc (log, heard, logs, bank, letters)) :: .d (enc S.1) :: .d (enc S.2.1) :: .d (.ptup (S.2.2.map enc)) :: x5 :: .d (encL (housesIn S)) :: .own (.dct (wd (freeKv S u))) :: .own (.dct (wd (withKv S v))) :: .d (.dct (wd (S.1.map fun s => (s.1, enc s.2.1)))) :: .d (enc d.1) :: .d (enc d.2.1) :: .d (enc d.2.2.1) :: .d (.int d.2.2.2) :: .d (encL sh) :: .d (encL bk) :: .d (.lst ((((housesIn S).filter (ownB S d)).map row).map encL)) :: .d (.lst (ways0.map encL)) :: .d (encL longL) :: x19 :: .d (.dct (wd ((rowsF S logs d.1).map fun p => (p.1, encL p.2)))) :: x21 :: .d (.lst ((alikes S row bk).map fun q => .tup [encL q.1, encL (toldL q.2)])) :: x23 :: x24 :: x25 :: x26 :: x27 :: x28 :: .d (.lst ((ends S d row bk).map fun q => .tup [encL q.1, encL (toldL q.2)])) :: x30 :: x31 :: x32 :: .no :: .no :: .no :: []) _ _ _
  refine db_cons (ds_for (xs := ends S d row bk) (f := fun q => .tup [encL q.1, encL (toldL q.2)]) (t := .tp [23, 24]) (di_lst (de_var (i := 29) rfl)) (fun i2 env => ∃ x23 x24, (∀ q ∈ (ends S d row bk).take i2, endQ sh q = true) ∧ env = (.d (.tup [enc S.1, enc S.2.1, .ptup (S.2.2.map enc)]) :: .d (enc (log, heard, logs, bank, letters)) :: .d (enc S.1) :: .d (enc S.2.1) :: .d (.ptup (S.2.2.map enc)) :: x5 :: .d (encL (housesIn S)) :: .own (.dct (wd (freeKv S u))) :: .own (.dct (wd (withKv S v))) :: .d (.dct (wd (S.1.map fun s => (s.1, enc s.2.1)))) :: .d (enc d.1) :: .d (enc d.2.1) :: .d (enc d.2.2.1) :: .d (.int d.2.2.2) :: .d (encL sh) :: .d (encL bk) :: .d (.lst ((((housesIn S).filter (ownB S d)).map row).map encL)) :: .d (.lst (ways0.map encL)) :: .d (encL longL) :: x19 :: .d (.dct (wd ((rowsF S logs d.1).map fun p => (p.1, encL p.2)))) :: x21 :: .d (.lst ((alikes S row bk).map fun q => .tup [encL q.1, encL (toldL q.2)])) :: x23 :: x24 :: x25 :: x26 :: x27 :: x28 :: .d (.lst ((ends S d row bk).map fun q => .tup [encL q.1, encL (toldL q.2)])) :: x30 :: x31 :: x32 :: .no :: .no :: .no :: [])) ⟨x23, x24, fun h hh => (by cases hh), rfl⟩ ?o1 ?o2 ?o3 PassesOwn.never)
  case o3 => exact (pg_tup rfl (pgs_cons (pg_name (i := 23) sc_law_fine.nd rfl (Or.inl rfl)) (pgs_cons (pg_name (i := 24) sc_law_fine.nd rfl (Or.inl rfl)) pgs_nil)))
  case o1 =>
    rintro i2 q _ hq ⟨x23, x24, hall2, rfl⟩
    have hm : q ∈ ends S d row bk := List.mem_of_getElem? hq
    refine ⟨_, .tp _ _ _ rfl, ?_⟩
    show DB _ _ (.d (.tup [enc S.1, enc S.2.1, .ptup (S.2.2.map enc)]) :: .d (enc (log, heard, logs, bank, letters)) :: .d (enc S.1) :: .d (enc S.2.1) :: .d (.ptup (S.2.2.map enc)) :: x5 :: .d (encL (housesIn S)) :: .own (.dct (wd (freeKv S u))) :: .own (.dct (wd (withKv S v))) :: .d (.dct (wd (S.1.map fun s => (s.1, enc s.2.1)))) :: .d (enc d.1) :: .d (enc d.2.1) :: .d (enc d.2.2.1) :: .d (.int d.2.2.2) :: .d (encL sh) :: .d (encL bk) :: .d (.lst ((((housesIn S).filter (ownB S d)).map row).map encL)) :: .d (.lst (ways0.map encL)) :: .d (encL longL) :: x19 :: .d (.dct (wd ((rowsF S logs d.1).map fun p => (p.1, encL p.2)))) :: x21 :: .d (.lst ((alikes S row bk).map fun q => .tup [encL q.1, encL (toldL q.2)])) :: .d (encL q.1) :: .d (encL (toldL q.2)) :: x25 :: x26 :: x27 :: x28 :: .d (.lst ((ends S d row bk).map fun q => .tup [encL q.1, encL (toldL q.2)])) :: x30 :: x31 :: x32 :: .no :: .no :: .no :: []) _ _ _
    have bad2 : endQ sh q = false → D.bl false = D.bl (fineB S (log, heard, logs, bank, letters)) := fun e => bad (by rw [eB, all_bad hm e])
    have eA : endQ sh q = (!endQ1 sh q.2 q.1 && (!(decide (W.ended ∈ sh) && (decide (W.drop ∈ sh) && !decide (q.2.d ∈ q.1))) && !(decide (W.returned ∈ sh) && !decide (q.2.b ∈ q.1)))) := rfl
    refine db_cons (ds_if (b := endQ1 sh q.2 q.1) (dt_w (dw_or (dt_w (dw_and (dt_in hr (x := W.go) (ys := sh) (de_W .go) (de_var (i := 14) rfl) (.lst _)) fun _ => (dw_and1 (dt_nin hr (x := q.2.k) (ys := q.1) (de_ixnL 0 (ds := (toldL q.2).map enc) (de_var (i := 24) rfl) rfl) (de_var (i := 23) rfl) (.lst _))))) fun _ => (dw_or1 (dt_w (dw_and (dt_in hr (x := W.ended) (ys := sh) (de_W .ended) (de_var (i := 14) rfl) (.lst _)) fun _ => (dw_and (dt_in hr (x := W.go) (ys := sh) (de_W .go) (de_var (i := 14) rfl) (.lst _)) fun _ => (dw_and1 (dt_nin hr (x := q.2.g) (ys := q.1) (de_ixnL 1 (ds := (toldL q.2).map enc) (de_var (i := 24) rfl) rfl) (de_var (i := 23) rfl) (.lst _))))))))) (fun h2 => ?p4) (fun h2 => ?p5))
    case p4 => exact db_cons (ds_retD de_bl (bad2 (by rw [eA, h2]; rfl)))
    rw [h2, Bool.not_false, Bool.true_and] at eA
    refine db_nil ?_
    refine db_cons (ds_if (b := decide (W.ended ∈ sh) && (decide (W.drop ∈ sh) && !decide (q.2.d ∈ q.1))) (dt_w (dw_and (dt_in hr (x := W.ended) (ys := sh) (de_W .ended) (de_var (i := 14) rfl) (.lst _)) fun _ => (dw_and (dt_in hr (x := W.drop) (ys := sh) (de_W .drop) (de_var (i := 14) rfl) (.lst _)) fun _ => (dw_and1 (dt_nin hr (x := q.2.d) (ys := q.1) (de_ixnL 2 (ds := (toldL q.2).map enc) (de_var (i := 24) rfl) rfl) (de_var (i := 23) rfl) (.lst _)))))) (fun h3 => ?p6) (fun h3 => ?p7))
    case p6 => exact db_cons (ds_retD de_bl (bad2 (by rw [eA, h3]; rfl)))
    rw [h3, Bool.not_false, Bool.true_and] at eA
    refine db_nil ?_
    refine db_cons (ds_if (b := decide (W.returned ∈ sh) && !decide (q.2.b ∈ q.1)) (dt_w (dw_and (dt_in hr (x := W.returned) (ys := sh) (de_W .returned) (de_var (i := 14) rfl) (.lst _)) fun _ => (dw_and1 (dt_nin hr (x := q.2.b) (ys := q.1) (de_ixnL 3 (ds := (toldL q.2).map enc) (de_var (i := 24) rfl) rfl) (de_var (i := 23) rfl) (.lst _))))) (fun h4 => ?p8) (fun h4 => ?p9))
    case p8 => exact db_cons (ds_retD de_bl (bad2 (by rw [eA, h4]; rfl)))
    rw [h4, Bool.not_false] at eA
    exact db_nil (db_nil ⟨_, _, take_all hall2 eA hq, rfl⟩)
  clear x23 x24
  rintro _ ⟨x23, x24, hen, rfl⟩
  rw [List.take_length] at hen
  have hen' : (ends S d row bk).all (endQ sh) = true := List.all_eq_true.mpr hen
  rw [hen'] at eB
  clear hen hen'
  refine db_cons (ds_for (xs := d.2.2.1) (f := enc) (t := .tp [30, 31]) (di_tup (de_var (i := 12) rfl)) (fun i2 env => ∃ x30 x31 x32, env = (.d (.tup [enc S.1, enc S.2.1, .ptup (S.2.2.map enc)]) :: .d (enc (log, heard, logs, bank, letters)) :: .d (enc S.1) :: .d (enc S.2.1) :: .d (.ptup (S.2.2.map enc)) :: x5 :: .d (encL (housesIn S)) :: .own (.dct (wd (freeKv S (uP S row (d.2.2.1.take i2) u)))) :: .own (.dct (wd (withKv S v))) :: .d (.dct (wd (S.1.map fun s => (s.1, enc s.2.1)))) :: .d (enc d.1) :: .d (enc d.2.1) :: .d (enc d.2.2.1) :: .d (.int d.2.2.2) :: .d (encL sh) :: .d (encL bk) :: .d (.lst ((((housesIn S).filter (ownB S d)).map row).map encL)) :: .d (.lst (ways0.map encL)) :: .d (encL longL) :: x19 :: .d (.dct (wd ((rowsF S logs d.1).map fun p => (p.1, encL p.2)))) :: x21 :: .d (.lst ((alikes S row bk).map fun q => .tup [encL q.1, encL (toldL q.2)])) :: x23 :: x24 :: x25 :: x26 :: x27 :: x28 :: .d (.lst ((ends S d row bk).map fun q => .tup [encL q.1, encL (toldL q.2)])) :: x30 :: x31 :: x32 :: .no :: .no :: .no :: [])) ⟨x30, x31, x32, rfl⟩ ?q1 ?q2 ?q3 PassesOwn.never)
  case q3 => exact (pg_tup rfl (pgs_cons (pg_name (i := 30) sc_law_fine.nd rfl (Or.inl rfl)) (pgs_cons (pg_name (i := 31) sc_law_fine.nd rfl (Or.inl rfl)) pgs_nil)))
  case q1 =>
    rintro i2 q _ hq ⟨x30, x31, x32, rfl⟩
    have hm : q ∈ d.2.2.1 := List.mem_of_getElem? hq
    refine ⟨_, .tp _ _ _ rfl, ?_⟩
    show DB _ _ (.d (.tup [enc S.1, enc S.2.1, .ptup (S.2.2.map enc)]) :: .d (enc (log, heard, logs, bank, letters)) :: .d (enc S.1) :: .d (enc S.2.1) :: .d (.ptup (S.2.2.map enc)) :: x5 :: .d (encL (housesIn S)) :: .own (.dct (wd (freeKv S (uP S row (d.2.2.1.take i2) u)))) :: .own (.dct (wd (withKv S v))) :: .d (.dct (wd (S.1.map fun s => (s.1, enc s.2.1)))) :: .d (enc d.1) :: .d (enc d.2.1) :: .d (enc d.2.2.1) :: .d (.int d.2.2.2) :: .d (encL sh) :: .d (encL bk) :: .d (.lst ((((housesIn S).filter (ownB S d)).map row).map encL)) :: .d (.lst (ways0.map encL)) :: .d (encL longL) :: x19 :: .d (.dct (wd ((rowsF S logs d.1).map fun p => (p.1, encL p.2)))) :: x21 :: .d (.lst ((alikes S row bk).map fun q => .tup [encL q.1, encL (toldL q.2)])) :: x23 :: x24 :: x25 :: x26 :: x27 :: x28 :: .d (.lst ((ends S d row bk).map fun q => .tup [encL q.1, encL (toldL q.2)])) :: .d (enc q.1) :: .d (.int q.2) :: x32 :: .no :: .no :: .no :: []) _ _ _
    have e2 : uP S row (d.2.2.1.take (i2 + 1)) u = addU (uP S row (d.2.2.1.take i2) u) q.1 (if bndW (row (homeOf S q.1)) = true then q.2 else 0) := by rw [take_succ_of hq, uP_snoc]
    rw [e2]
    generalize uP S row (d.2.2.1.take i2) u = u2
    obtain ⟨s1, hs1, e1, _⟩ := home_at wf' (wf'.pm d hd q hm) (rfl : homeOf S q.1 = homeOf S q.1)
    refine db_cons (ds_setD (i := 32) (de_dget (kvs := (rowsF S logs d.1).map fun p => (p.1, encL p.2)) hr (de_var (i := 20) rfl) (de_dget (kvs := S.1.map fun s => (s.1, enc s.2.1)) hr (de_var (i := 9) rfl) (de_var (i := 30) rfl) (hlook hm).1) (rlook (hlook hm).2)) sc_law_fine.nd ?s1)
    show DB _ _ (.d (.tup [enc S.1, enc S.2.1, .ptup (S.2.2.map enc)]) :: .d (enc (log, heard, logs, bank, letters)) :: .d (enc S.1) :: .d (enc S.2.1) :: .d (.ptup (S.2.2.map enc)) :: x5 :: .d (encL (housesIn S)) :: .own (.dct (wd (freeKv S u2))) :: .own (.dct (wd (withKv S v))) :: .d (.dct (wd (S.1.map fun s => (s.1, enc s.2.1)))) :: .d (enc d.1) :: .d (enc d.2.1) :: .d (enc d.2.2.1) :: .d (.int d.2.2.2) :: .d (encL sh) :: .d (encL bk) :: .d (.lst ((((housesIn S).filter (ownB S d)).map row).map encL)) :: .d (.lst (ways0.map encL)) :: .d (encL longL) :: x19 :: .d (.dct (wd ((rowsF S logs d.1).map fun p => (p.1, encL p.2)))) :: x21 :: .d (.lst ((alikes S row bk).map fun q => .tup [encL q.1, encL (toldL q.2)])) :: x23 :: x24 :: x25 :: x26 :: x27 :: x28 :: .d (.lst ((ends S d row bk).map fun q => .tup [encL q.1, encL (toldL q.2)])) :: .d (enc q.1) :: .d (.int q.2) :: .d (encL (row (homeOf S q.1))) :: .no :: .no :: .no :: []) _ _ _
    refine db_cons (ds_dput (i := 7) (w := q.1) (P := fun d => d = .int (s1.2.2 - u2 s1.1 - (if bndW (row (homeOf S q.1)) = true then q.2 else 0))) hr rfl (de_cold (de_sub (i := s1.2.2 - u2 s1.1) (j := if bndW (row (homeOf S q.1)) = true then q.2 else 0) ?s2 ?s3) (.int _)) (de_var (i := 30) rfl) ?s4 ?s5)
    case s2 => exact de_dget (kvs := freeKv S u2) hr (de_var (i := 7) rfl) (de_var (i := 30) rfl) (by rw [← e1]; exact freeKv_look wf' u2 hs1)
    case s3 =>
      refine DE.cast (d := if bndW (row (homeOf S q.1)) = true then .int q.2 else .int 0) (de_ite (dt_w (dw_and (dt_neL hr (x := row (homeOf S q.1)) (y := ([] : List W)) (de_var (i := 32) rfl) (de_fe df_nil)) fun hne => (dw_and1 ?s6))) (fun _ => (de_var (i := 31) (d := .int q.2) rfl)) (fun _ => de_int)) (by split <;> rfl)
      refine dt_ne hr (x := lastW (row (homeOf S q.1))) (y := W.released) (de_ixL (ds := (row (homeOf S q.1)).map enc) (i := -1) (de_var (i := 32) rfl) de_neg1 (last_at ?_)) (de_W .released)
      simpa using hne
    case s4 =>
      have := congrArg List.length (freeKv_keys S u2)
      rw [List.length_map, List.length_map] at this
      omega
    case s5 =>
      rintro _ rfl
      have z := freeKv_put wf' u2 hs1 (if bndW (row (homeOf S q.1)) = true then q.2 else 0)
      rw [e1] at z ⊢
      exact db_nil ⟨_, _, _, by rw [z]; rfl⟩
  clear x30 x31 x32
  rintro _ ⟨x30, x31, x32, rfl⟩
  rw [List.take_length]
  show DB _ _ (.d (.tup [enc S.1, enc S.2.1, .ptup (S.2.2.map enc)]) :: .d (enc (log, heard, logs, bank, letters)) :: .d (enc S.1) :: .d (enc S.2.1) :: .d (.ptup (S.2.2.map enc)) :: x5 :: .d (encL (housesIn S)) :: .own (.dct (wd (freeKv S (uP S row d.2.2.1 u)))) :: .own (.dct (wd (withKv S v))) :: .d (.dct (wd (S.1.map fun s => (s.1, enc s.2.1)))) :: .d (enc d.1) :: .d (enc d.2.1) :: .d (enc d.2.2.1) :: .d (.int d.2.2.2) :: .d (encL sh) :: .d (encL bk) :: .d (.lst ((((housesIn S).filter (ownB S d)).map row).map encL)) :: .d (.lst (ways0.map encL)) :: .d (encL longL) :: x19 :: .d (.dct (wd ((rowsF S logs d.1).map fun p => (p.1, encL p.2)))) :: x21 :: .d (.lst ((alikes S row bk).map fun q => .tup [encL q.1, encL (toldL q.2)])) :: x23 :: x24 :: x25 :: x26 :: x27 :: x28 :: .d (.lst ((ends S d row bk).map fun q => .tup [encL q.1, encL (toldL q.2)])) :: x30 :: x31 :: x32 :: .no :: .no :: .no :: []) _ _ _
  obtain ⟨by1, hby, eby⟩ := List.mem_map.mp (wf'.db d hd)
  refine db_cons (ds_dput (i := 8) (w := d.2.1) (P := fun z => z = .int (by1.2 - v by1.1 - (if bndB bk = true then d.2.2.2 else 0))) hr rfl (de_cold (de_sub (i := by1.2 - v by1.1) (j := if bndB bk = true then d.2.2.2 else 0) ?t2 ?t3) (.int _)) (de_var (i := 11) rfl) ?t4 ?t5)
  case t2 => exact de_dget (kvs := withKv S v) hr (de_var (i := 8) rfl) (de_var (i := 11) rfl) (by rw [← eby]; exact withKv_look wf' v hby)
  case t3 =>
    refine DE.cast (d := if bndB bk = true then .int d.2.2.2 else .int 0) (de_ite (dt_w (dw_and (dt_neL hr (x := bk) (y := ([] : List W)) (de_var (i := 15) rfl) (de_fe df_nil)) fun hne => (dw_and1 ?t6))) (fun _ => (de_var (i := 13) (d := .int d.2.2.2) rfl)) (fun _ => de_int)) (by split <;> rfl)
    refine dt_in hr (x := lastW bk) (ys := [W.held, .taken]) (de_ixL (ds := bk.map enc) (i := -1) (de_var (i := 15) rfl) de_neg1 (last_at ?_)) (de_fe (df_lst (da_cons (de_W .held) (da_cons (de_W .taken) da_nil)))) (.lst _)
    simpa using hne
  case t4 =>
    have := congrArg List.length (withKv_keys S v)
    rw [List.length_map, List.length_map] at this
    omega
  case t5 =>
    rintro _ rfl
    have z := withKv_put wf' v hby (if bndB bk = true then d.2.2.2 else 0)
    rw [eby] at z ⊢
    rw [z]
    refine db_nil ⟨_, _, _, _, _, _, _, _, _, _, _, _, _, _, _, _, _, _, _, _, _, _, _, take_all hall (by rw [eB]) hdi, rfl⟩
end
section
variable {X : Cx} {J : Jn} {env : List SL} {a b : Expr} {pos p : Pos}
theorem c_law_fine (T : Txt X.K X.mg) (hr : Room 2 X.A) {S : Setup} {st : State} (ha : DE X J env a (.tup [enc S.1, enc S.2.1, .ptup (S.2.2.map enc)])) (hb : DE X J env b (enc st)) (h1 : SW S) (h2 : Ls S st) (hg : Gl X "_law_fine" := by rfl) (s0 : starEach [a, b] X.env = (false, eval a X.env) :: starEach [b] X.env := by rfl) (s1 : starEach [b] X.env = (false, eval b X.env) :: starEach [] X.env := by rfl) (hpl : (backTo pos (starEach [b] X.env)).any (·.1) = false := by rfl) :
    DE X J env (.Call (.Name "_law_fine" p) [a, b] [] pos) (.bl (fineB S st)) := cal_de (cal_law_fine T) hr (S, st) (da_cons ha (da_cons hb da_nil s1) s0) ⟨h1, h2⟩ hg s0 hpl
end
end Sh
/-! M2a: what is bound, in sums; faults and fine say the same. -/
namespace Sh
def three : List W := [.reserved, .sent, .back]
def partSum (ps : List Prt) (x : W) : Int := (ps.map fun p => if p.1 = x then p.2 else 0).sum
def tot (c : W → W → Int) (x : W) : Int := c x .reserved + c x .sent + c x .back
theorem bump_tot {c : W → W → Int} {y w : W} {n : Int} (hw : w ∈ three) (x : W) : tot (bump c y w n) x = tot c x + if y = x then n else 0 := by
  unfold tot bump
  simp only [three, List.mem_cons, List.not_mem_nil, or_false] at hw
  by_cases e : x = y
  · subst e
    rw [if_pos rfl]
    rcases hw with z | z | z <;> subst z <;> simp <;> omega
  · have e' : ¬ y = x := fun z => e z.symm
    simp [e, e']
theorem cD_tot {w : W} (hw : w ∈ three) (x : W) : ∀ (ps : List Prt) (c : W → W → Int), tot (cD ps w c) x = tot c x + partSum ps x
  | [], c => by show tot c x = tot c x + 0; omega
  | p :: ps, c => by
    show tot (cD ps w (bump c p.1 w p.2)) x = _
    rw [cD_tot hw x ps, bump_tot hw]
    unfold partSum
    rw [List.map_cons, List.sum_cons]
    omega
def usedAt (S : Setup) (log : Log) (h : W) (ds : List Deal) (x : W) : Int := (ds.map fun d => if standOf log d.1 ∈ three then partSum (partsAt S d.1 h) x else 0).sum
theorem cF_tot (S : Setup) (log : Log) (h x : W) : ∀ (ds : List Deal) (c : W → W → Int), tot (cF S log h ds c) x = tot c x + usedAt S log h ds x
  | [], c => by show tot c x = tot c x + 0; omega
  | d :: ds, c => by
    show tot (cF S log h ds (if standOf log d.1 ∈ three then cD (partsAt S d.1 h) (standOf log d.1) c else c)) x = _
    rw [cF_tot S log h x ds]
    unfold usedAt
    rw [List.map_cons, List.sum_cons]
    by_cases e : standOf log d.1 ∈ three
    · rw [if_pos e, if_pos e, cD_tot e]; omega
    · rw [if_neg e, if_neg e]; omega
theorem cD_nn {w : W} : ∀ (ps : List Prt) (c : W → W → Int), (∀ p ∈ ps, 0 ≤ p.2) → (∀ y v, 0 ≤ c y v) → ∀ y v, 0 ≤ cD ps w c y v
  | [], c, _, h => h
  | p :: ps, c, hp, h => cD_nn ps (bump c p.1 w p.2) (fun q hq => hp q (.tail _ hq)) fun y v => by
    have z := hp p (.head _)
    have y1 := h y v
    unfold bump
    split <;> omega
theorem cF_nn (S : Setup) (log : Log) (h : W) : ∀ (ds : List Deal) (c : W → W → Int), (∀ d ∈ ds, ∀ p ∈ partsAt S d.1 h, 0 ≤ p.2) → (∀ y v, 0 ≤ c y v) → ∀ y v, 0 ≤ cF S log h ds c y v
  | [], c, _, h => h
  | d :: ds, c, hp, hc => cF_nn S log h ds (if standOf log d.1 ∈ [W.reserved, .sent, .back] then cD (partsAt S d.1 h) (standOf log d.1) c else c) (fun q hq => hp q (.tail _ hq)) (by
    split
    · exact cD_nn _ _ (hp d (.head _)) hc
    · exact hc)
theorem deal_is {S : Setup} (wf : SW S) {d : Deal} (hd : d ∈ S.2.1) : dealOf S d.1 = d := by
  obtain ⟨h1, h2⟩ := deal_mem (List.mem_map.mpr ⟨d, hd, rfl⟩ : d.1 ∈ S.2.1.map (·.1))
  exact nodup_fst wf.dn h1 hd h2
theorem parts_sub {S : Setup} (wf : SW S) {d : Deal} (hd : d ∈ S.2.1) {h : W} {p : Prt} (hp : p ∈ partsAt S d.1 h) : p ∈ d.2.2.1 ∧ homeOf S p.1 = h := by
  unfold partsAt at hp
  rw [deal_is wf hd] at hp
  obtain ⟨h1, h2⟩ := List.mem_filter.mp hp
  exact ⟨h1, of_decide_eq_true h2⟩
theorem minI_lt {a b c d : Int} (hb : 0 ≤ b) (hc : 0 ≤ c) (hd : 0 ≤ d) : minI [a, b, c, d] < 0 ↔ a < 0 := by
  show min (min (min a b) c) d < 0 ↔ _
  omega
theorem minI_lt3 {a b c : Int} (hb : 0 ≤ b) (hc : 0 ≤ c) : minI [a, b, c] < 0 ↔ a < 0 := by
  show min (min a b) c < 0 ↔ _
  omega
theorem bad_thing {S : Setup} (sv : SV S) (logs : List Log) (s : Sup) : badRow (thingRow S logs s) s.2.2 = decide (s.2.2 - usedAt S (logAt S logs s.2.1) s.2.1 S.2.1 s.1 < 0) := by
  have wf := sv.toSW
  have nn := cF_nn S (logAt S logs s.2.1) s.2.1 S.2.1 (fun _ _ => 0) (fun d hd p hp => by have := (sv.c2 d hd p (parts_sub wf hd hp).1).1; omega) (fun _ _ => Int.le_refl _) s.1
  have tt := cF_tot S (logAt S logs s.2.1) s.2.1 s.1 S.2.1 (fun _ _ => 0)
  unfold tot at tt
  dsimp only at tt
  unfold badRow thingRow
  generalize cF S (logAt S logs s.2.1) s.2.1 S.2.1 (fun _ _ => 0) s.1 = c at nn tt ⊢
  have e1 : (row4 s.2.2 c).sum = s.2.2 := by
    unfold row4
    simp only [List.sum_cons, List.sum_nil]
    omega
  have e2 : minI (row4 s.2.2 c) < 0 ↔ s.2.2 - usedAt S (logAt S logs s.2.1) s.2.1 S.2.1 s.1 < 0 := by
    unfold row4
    rw [minI_lt (nn _) (nn _) (nn _)]
    omega
  rw [e1, decide_eq_true (rfl : s.2.2 = s.2.2), Bool.not_true, Bool.or_false]
  exact decide_eq_decide.mpr e2
/-! ### coins -/
def twoB : List W := [.held, .taken]
def totB (c : W → W → Int) (x : W) : Int := c x .held + c x .taken
theorem bump_totB {c : W → W → Int} {y w : W} {n : Int} (hw : w ∈ twoB) (x : W) : totB (bump c y w n) x = totB c x + if y = x then n else 0 := by
  unfold totB bump
  simp only [twoB, List.mem_cons, List.not_mem_nil, or_false] at hw
  by_cases e : x = y
  · subst e
    rw [if_pos rfl]
    rcases hw with z | z <;> subst z <;> simp <;> omega
  · have e' : ¬ y = x := fun z => e z.symm
    simp [e, e']
def usedB (bank : Log) (ds : List Deal) (x : W) : Int := (ds.map fun d => if standOf bank d.1 ∈ twoB then (if d.2.1 = x then d.2.2.2 else 0) else 0).sum
theorem cG_tot (bank : Log) (x : W) : ∀ (ds : List Deal) (c : W → W → Int), totB (cG bank ds c) x = totB c x + usedB bank ds x
  | [], c => by show totB c x = totB c x + 0; omega
  | d :: ds, c => by
    show totB (cG bank ds (if standOf bank d.1 ∈ twoB then bump c d.2.1 (standOf bank d.1) d.2.2.2 else c)) x = _
    rw [cG_tot bank x ds]
    unfold usedB
    rw [List.map_cons, List.sum_cons]
    by_cases e : standOf bank d.1 ∈ twoB
    · rw [if_pos e, if_pos e, bump_totB e]; omega
    · rw [if_neg e, if_neg e]; omega
theorem cG_nn (bank : Log) : ∀ (ds : List Deal) (c : W → W → Int), (∀ d ∈ ds, 0 ≤ d.2.2.2) → (∀ y v, 0 ≤ c y v) → ∀ y v, 0 ≤ cG bank ds c y v
  | [], c, _, h => h
  | d :: ds, c, hp, hc => cG_nn bank ds (if standOf bank d.1 ∈ [W.held, .taken] then bump c d.2.1 (standOf bank d.1) d.2.2.2 else c) (fun q hq => hp q (.tail _ hq)) (by
    split
    · intro y v
      have z := hp d (.head _)
      have y1 := hc y v
      unfold bump
      split <;> omega
    · exact hc)
theorem bad_coin {S : Setup} (sv : SV S) (bank : Log) (b : Buy) : badRow (coinRow S bank b) b.2 = decide (b.2 - usedB bank S.2.1 b.1 < 0) := by
  have nn := cG_nn bank S.2.1 (fun _ _ => 0) (fun d hd => (sv.c3 d hd).1) (fun _ _ => Int.le_refl _) b.1
  have tt := cG_tot bank b.1 S.2.1 (fun _ _ => 0)
  unfold totB at tt
  dsimp only at tt
  unfold badRow coinRow
  generalize cG bank S.2.1 (fun _ _ => 0) b.1 = c at nn tt ⊢
  have e1 : (row3 b.2 c).sum = b.2 := by
    unfold row3
    simp only [List.sum_cons, List.sum_nil]
    omega
  have e2 : minI (row3 b.2 c) < 0 ↔ b.2 - usedB bank S.2.1 b.1 < 0 := by
    unfold row3
    rw [minI_lt3 (nn _) (nn _)]
    omega
  rw [e1, decide_eq_true (rfl : b.2 = b.2), Bool.not_true, Bool.or_false]
  exact decide_eq_decide.mpr e2
/-! ### rows -/
theorem row_words {log : Log} {ws ns : List W} (h : isLog log ws ns = true) {d w : W} (m : w ∈ rowOf log d) : w ∈ ws := by
  unfold isLog at h
  rw [List.all_eq_true] at h
  have z := h _ (row_mem.mp m)
  rw [Bool.and_eq_true, decide_eq_true_eq] at z
  exact z.1
theorem bnd_three {log : Log} {ns : List W} (h : isLog log houseWs ns = true) (d : W) : bndW (rowOf log d) = true ↔ standOf log d ∈ three := by
  rw [stand_last]
  unfold bndW
  rw [Bool.and_eq_true, Bool.not_eq_true', Bool.not_eq_true', decide_eq_false_iff_not, decide_eq_false_iff_not]
  by_cases e : rowOf log d = []
  · rw [e]
    constructor
    · rintro ⟨z, _⟩; exact absurd rfl z
    · intro z; exact absurd z (by decide)
  · have l : lastW (rowOf log d) ∈ houseWs := by
      refine row_words h (d := d) ?_
      unfold lastW
      rw [List.getLast?_eq_getLast e]
      exact List.getLast_mem e
    generalize lastW (rowOf log d) = w at l
    simp only [houseWs, List.mem_cons, List.not_mem_nil, or_false] at l
    rcases l with z | z | z | z <;> subst z <;> simp [e, three]
theorem bnd_two {log : Log} (d : W) : bndB (rowOf log d) = true ↔ standOf log d ∈ twoB := by
  rw [stand_last]
  unfold bndB
  rw [Bool.and_eq_true, Bool.not_eq_true', decide_eq_false_iff_not, decide_eq_true_eq]
  constructor
  · exact fun z => z.2
  · intro z
    refine ⟨fun e => ?_, z⟩
    rw [e] at z
    exact absurd z (by decide)
theorem look_zip : ∀ {hs : List W} {logs : List Log} {d h : W}, hs.length = logs.length → h ∈ hs → ((lookW ((hs.zip logs).map fun p => (p.1, rowOf p.2 d)) h).getD []) = rowOf ((logs[hs.idxOf h]?).getD []) d
  | [], _, _, _, _, m => by cases m
  | x :: hs, [], _, _, e, _ => by simp at e
  | x :: hs, l :: logs, d, h, e, m => by
    rw [List.zip_cons_cons, List.map_cons, lookW_cons]
    by_cases z : x = h
    · subst z
      rw [if_pos rfl, List.idxOf_cons_self]
      rfl
    · rw [if_neg z]
      have m' : h ∈ hs := by
        rcases List.mem_cons.mp m with y | y
        · exact absurd y.symm z
        · exact y
      rw [look_zip (by simpa using e) m']
      have e2 : (x :: hs).idxOf h = hs.idxOf h + 1 := by
        rw [List.idxOf_cons]
        have : (x == h) = false := by simpa using z
        rw [this]; rfl
      rw [e2, List.getElem?_cons_succ]
theorem rowAt_eq {S : Setup} {logs : List Log} (hl : logs.length = (housesIn S).length) {d h : W} (m : h ∈ housesIn S) : rowAt (rowsF S logs d) h = rowOf (logAt S logs h) d := by
  unfold rowAt rowsF logAt
  exact look_zip hl.symm m
end Sh
/-! M2b: faults is empty just where fine says so. -/
namespace Sh
theorem zeroB_iff (ns : List Int) : zeroB ns = true ↔ ∀ n ∈ ns, 0 ≤ n := by
  unfold zeroB
  rw [decide_eq_true_eq]
  have le : ∀ (ns : List Int) (a : Int), ns.foldl min a ≤ a := by
    intro ns
    induction ns with
    | nil => intro a; exact Int.le_refl _
    | cons n r ih => intro a; exact Int.le_trans (ih _) (by omega)
  have go : ∀ (ns : List Int) (a : Int), ns.foldl min a = a ↔ ∀ n ∈ ns, a ≤ n := by
    intro ns
    induction ns with
    | nil => intro a; exact ⟨fun _ n h => (by cases h), fun _ => rfl⟩
    | cons n r ih =>
      intro a
      show r.foldl min (min a n) = a ↔ _
      have l1 := le r (min a n)
      constructor
      · intro h m hm
        have e : min a n = a := by omega
        rw [e] at h
        rcases List.mem_cons.mp hm with z | z
        · rw [z]; omega
        · exact (ih a).mp h m z
      · intro h
        have h1 := h n (.head _)
        have e : min a n = a := by omega
        rw [e]
        exact (ih a).mpr fun m hm => h m (.tail _ hm)
  exact go ns 0
theorem uP_at (S : Setup) (row : W → List W) (x : W) : ∀ (ps : List Prt) (u : W → Int), uP S row ps u x = u x + (if bndW (row (homeOf S x)) = true then partSum ps x else 0)
  | [], u => by
    show u x = _
    unfold partSum
    split <;> simp
  | p :: ps, u => by
    show uP S row ps (addU u p.1 (if bndW (row (homeOf S p.1)) = true then p.2 else 0)) x = _
    rw [uP_at S row x ps]
    unfold addU partSum
    rw [List.map_cons, List.sum_cons]
    by_cases e : x = p.1
    · rw [if_pos e, if_pos e.symm, e]
      by_cases b : bndW (row (homeOf S p.1)) = true
      · rw [if_pos b, if_pos b, if_pos b]; omega
      · rw [if_neg b, if_neg b, if_neg b]; omega
    · have n : ¬ p.1 = x := fun z => e z.symm
      simp only [if_neg e, if_neg n]
      by_cases b : bndW (row (homeOf S x)) = true
      · simp only [if_pos b]; omega
      · simp only [if_neg b]
theorem part_filter {S : Setup} (ps : List Prt) {x h : W} (e : homeOf S x = h) : partSum (ps.filter fun p => decide (homeOf S p.1 = h)) x = partSum ps x := by
  unfold partSum
  induction ps with
  | nil => rfl
  | cons p ps ih =>
    by_cases z : homeOf S p.1 = h
    · rw [List.filter_cons_of_pos (by exact decide_eq_true z), List.map_cons, List.map_cons, List.sum_cons, List.sum_cons, ih]
    · rw [List.filter_cons_of_neg (by simpa using z), ih, List.map_cons, List.sum_cons]
      have n : ¬ p.1 = x := fun y => z (by rw [y]; exact e)
      rw [if_neg n]; omega
theorem home_sup {S : Setup} (wf : SW S) {s : Sup} (hs : s ∈ S.1) : homeOf S s.1 = s.2.1 := by
  obtain ⟨t, ht, e1, e2⟩ := home_at wf (List.mem_map.mpr ⟨s, hs, rfl⟩ : s.1 ∈ S.1.map (·.1)) (rfl : homeOf S s.1 = homeOf S s.1)
  have := nodup_fst wf.sn ht hs e1
  rw [← e2, this]
theorem uD_used {S : Setup} (wf : SW S) {logs : List Log} (hl : logs.length = (housesIn S).length) (ok : ∀ g ∈ logs, isLog g houseWs (S.2.1.map (·.1)) = true) {s : Sup} (hs : s ∈ S.1) : ∀ (ds : List Deal) (u : W → Int), (∀ d ∈ ds, d ∈ S.2.1) → uD S logs ds u s.1 = u s.1 + usedAt S (logAt S logs s.2.1) s.2.1 ds s.1
  | [], u, _ => by show u s.1 = u s.1 + 0; omega
  | d :: ds, u, hd => by
    show uD S logs ds (uP S (rowAt (rowsF S logs d.1)) d.2.2.1 u) s.1 = _
    rw [uD_used wf hl ok hs ds _ (fun d h => hd d (.tail _ h)), uP_at, home_sup wf hs]
    have m : s.2.1 ∈ housesIn S := house_mem hs
    rw [rowAt_eq hl m]
    unfold usedAt
    rw [List.map_cons, List.sum_cons]
    have lg : logAt S logs s.2.1 ∈ logs := by
      have il : (housesIn S).idxOf s.2.1 < logs.length := by rw [hl]; exact List.idxOf_lt_length_iff.mpr m
      unfold logAt
      rw [List.getElem?_eq_getElem il]
      exact List.getElem_mem il
    have bt := bnd_three (ok _ lg) d.1
    have pf : partSum (partsAt S d.1 s.2.1) s.1 = partSum d.2.2.1 s.1 := by
      unfold partsAt
      rw [deal_is wf (hd d (.head _))]
      exact part_filter _ (home_sup wf hs)
    rw [pf]
    by_cases b : standOf (logAt S logs s.2.1) d.1 ∈ three
    · rw [if_pos b, if_pos (bt.mpr b)]; omega
    · rw [if_neg b, if_neg fun z => b (bt.mp z)]; omega
theorem vD_used (bank : Log) (x : W) : ∀ (ds : List Deal) (v : W → Int), vD bank ds v x = v x + usedB bank ds x
  | [], v => by show v x = v x + 0; omega
  | d :: ds, v => by
    show vD bank ds (addU v d.2.1 (if bndB (rowOf bank d.1) = true then d.2.2.2 else 0)) x = _
    rw [vD_used bank x ds]
    unfold usedB addU
    rw [List.map_cons, List.sum_cons]
    have bt := bnd_two (log := bank) d.1
    by_cases b : standOf bank d.1 ∈ twoB
    · rw [if_pos b, if_pos (bt.mpr b)]
      by_cases e : x = d.2.1
      · rw [if_pos e, if_pos e.symm]; omega
      · rw [if_neg e, if_neg fun z => e z.symm]; omega
    · rw [if_neg b, if_neg fun z => b (bt.mp z)]
      split <;> omega
/-! ### a deal -/
theorem ways_iff (sh : List W) : sh ∈ waysL ↔ sh = [] ∨ sh ∈ rows0 := by
  have e : waysL = [[], [.begun], [.begun, .drop], [.begun, .drop, .ended], [.begun, .go], [.begun, .go, .ended], [.begun, .go, .ended, .ret], [.begun, .go, .ended, .ret, .returned]] := by decide
  rw [e]
  simp only [rows0, List.mem_cons, List.not_mem_nil, or_false]
  grind
theorem kv_eta {kvs : List (W × List W)} (nd : (kvs.map (·.1)).Nodup) : kvs = (kvs.map (·.1)).map fun h => (h, rowAt kvs h) := by
  rw [List.map_map]
  have : kvs.map ((fun h => (h, rowAt kvs h)) ∘ fun x => x.1) = kvs.map id := by
    refine List.map_congr_left fun p hp => ?_
    show (p.1, rowAt kvs p.1) = p
    unfold rowAt
    rw [lookW_of_mem nd (show (p.1, p.2) ∈ kvs from hp)]
    rfl
  rw [this, List.map_id]
theorem hof_mem (S : Setup) (d : W) : ∀ (xs : List Sup) (acc : List W), (∀ w ∈ acc, w ∈ hof S d xs acc) ∧ ∀ s ∈ xs, partsAt S d s.2.1 ≠ [] → s.2.1 ∈ hof S d xs acc
  | [], acc => ⟨fun _ h => h, fun _ h => by cases h⟩
  | p :: r, acc => by
    have ih := hof_mem S d r (if p.2.1 ∉ acc ∧ partsAt S d p.2.1 ≠ [] then acc ++ [p.2.1] else acc)
    refine ⟨fun w hw => ih.1 w ?_, fun s hs ne => ?_⟩
    · split
      · exact List.mem_append_left _ hw
      · exact hw
    · rcases List.mem_cons.mp hs with z | z
      · refine ih.1 s.2.1 ?_
        rw [z] at ne ⊢
        by_cases m : p.2.1 ∈ acc
        · rw [if_neg fun y => y.1 m]; exact m
        · rw [if_pos ⟨m, ne⟩]; exact List.mem_append_right _ (List.mem_singleton.mpr rfl)
      · exact ih.2 s z ne
theorem hin_sub : ∀ (xs : List Sup) (acc : List W) (h : W), h ∈ hin xs acc → h ∈ acc ∨ ∃ s ∈ xs, s.2.1 = h
  | [], _, _, m => .inl m
  | p :: r, acc, h, m => by
    rcases hin_sub r (if p.2.1 ∈ acc then acc else acc ++ [p.2.1]) h m with z | ⟨s, hs, e⟩
    · split at z
      · exact .inl z
      · rcases List.mem_append.mp z with y | y
        · exact .inl y
        · exact .inr ⟨p, .head _, (List.mem_singleton.mp y).symm⟩
    · exact .inr ⟨s, .tail _ hs, e⟩
theorem own_iff {S : Setup} (wf : SW S) {d : Deal} (hd : d ∈ S.2.1) {h : W} : h ∈ housesOf S d.1 ↔ h ∈ housesIn S ∧ ownB S d h = true := by
  have e : ownB S d h = true ↔ partsAt S d.1 h ≠ [] := by
    unfold ownB partsAt
    rw [deal_is wf hd, Bool.not_eq_true', decide_eq_false_iff_not]
  rw [e]
  constructor
  · exact housesOf_sub
  · rintro ⟨m, ne⟩
    rcases hin_sub S.1 [] h m with z | ⟨s, hs, z⟩
    · cases z
    · subst z
      exact (hof_mem S d.1 S.1 []).2 s hs ne
theorem houseF_nil (shop own : List W) (d : W) : ∀ (ps : List (W × List W)) (acc : List Flt), ps.foldl (houseF shop own d) acc = [] ↔ acc = [] ∧ ∀ p ∈ ps, houseB1 own p = false ∧ houseB2 shop p.2 = false
  | [], acc => ⟨fun h => ⟨h, fun _ z => by cases z⟩, fun h => h.1⟩
  | p :: r, acc => by
    rw [List.foldl_cons, houseF_nil shop own d r]
    unfold houseF
    rw [List.append_eq_nil_iff, List.append_eq_nil_iff, iff1_nil, iff1_nil]
    constructor
    · rintro ⟨⟨⟨h1, h2⟩, h3⟩, h4⟩
      refine ⟨h1, fun q hq => ?_⟩
      rcases List.mem_cons.mp hq with z | z
      · rw [z]; exact ⟨h2, h3⟩
      · exact h4 q z
    · rintro ⟨h1, h2⟩
      exact ⟨⟨⟨h1, (h2 p (.head _)).1⟩, (h2 p (.head _)).2⟩, fun q hq => h2 q (.tail _ hq)⟩
/-- what is asked of a deal -/
structure DealP (sh bk : List W) (hs own : List W) (row : W → List W) : Prop where
  s : sh = [] ∨ sh ∈ rows0
  h1 : ∀ h ∈ hs, row h ∈ hrows ∧ (row h = [] ∨ h ∈ own)
  h2 : ∀ h ∈ hs, (W.sent ∈ row h → W.go ∈ sh) ∧ (W.released ∈ row h → W.drop ∈ sh) ∧ (W.back ∈ row h → W.ret ∈ sh)
  b1 : bk ∈ brows
  b2 : (W.taken ∈ bk → W.go ∈ sh) ∧ (W.freed ∈ bk → W.drop ∈ sh) ∧ (W.refunded ∈ bk → W.ret ∈ sh)
  e1 : W.go ∈ sh → W.held ∈ bk ∧ ∀ h ∈ own, W.reserved ∈ row h
  e2 : W.ended ∈ sh → W.go ∈ sh → W.taken ∈ bk ∧ ∀ h ∈ own, W.sent ∈ row h
  e3 : W.ended ∈ sh → W.drop ∈ sh → W.freed ∈ bk ∧ ∀ h ∈ own, W.released ∈ row h
  e4 : W.returned ∈ sh → W.refunded ∈ bk ∧ ∀ h ∈ own, W.back ∈ row h
theorem faults_dealP {S : Setup} {log : Log} {heard : List Hrd} {logs : List Log} {bank : Log} {letters : List Let} (hl : logs.length = (housesIn S).length) (d : W) : dealFaults S (log, heard, logs, bank, letters) d = [] ↔ DealP (rowOf log d) (rowOf bank d) (housesIn S) (housesOf S d) (rowAt (rowsF S logs d)) := by
  have ek : (rowsF S logs d).map (·.1) = housesIn S := rowsF_keys hl d
  have et : rowsF S logs d = (housesIn S).map fun h => (h, rowAt (rowsF S logs d) h) := by
    have z := kv_eta (kvs := rowsF S logs d) (by rw [ek]; exact houses_nodup S)
    rw [ek] at z
    exact z
  have sub : ∀ h ∈ housesOf S d, h ∈ housesIn S := fun h m => (housesOf_sub m).1
  show dealPre (rowOf log d) (rowOf bank d) (housesOf S d) (rowsF S logs d) d ++ endFaults (rowOf log d) ((housesOf S d).map (rowAt (rowsF S logs d))) (rowOf bank d) d = [] ↔ _
  unfold dealPre endFaults earlyB
  generalize hrow : rowAt (rowsF S logs d) = row at et ⊢
  rw [et]
  generalize rowOf log d = sh
  generalize rowOf bank d = bk
  generalize housesOf S d = own at sub ⊢
  generalize housesIn S = hs at sub ⊢
  simp only [List.append_eq_nil_iff, houseF_nil, iff1_nil, List.nil_append, List.mem_map, forall_exists_index, and_imp, forall_apply_eq_imp_iff₂]
  simp only [shopB, houseB1, houseB2, bankB2, bankB3, endB, endB3, Bool.and_eq_false_iff, Bool.or_eq_false_iff, Bool.not_eq_false', Bool.not_eq_true', decide_eq_false_iff_not, decide_eq_true_eq, List.all_eq_true, List.mem_map, forall_exists_index, and_imp, forall_apply_eq_imp_iff₂]
  constructor
  · rintro ⟨⟨⟨⟨⟨⟨q1, q2⟩, q3⟩, q4⟩, q5⟩, q6⟩, ⟨q7, q8⟩, q9⟩
    refine ⟨?_, fun h m => ?_, fun h m => ?_, q3, ?_, ?_, ?_, ?_, ?_⟩
    · grind
    · have z := (q2 h m).1; grind
    · have z := (q2 h m).2; grind
    · grind
    · grind
    · grind
    · grind
    · grind
  · rintro ⟨p1, p2, p3, p4, p5, p6, p7, p8, p9⟩
    refine ⟨⟨⟨⟨⟨⟨?_, fun h m => ?_⟩, p4⟩, ?_⟩, ?_⟩, ?_⟩, ⟨?_, ?_⟩, ?_⟩
    · grind
    · have z := p2 h m; have y := p3 h m; grind
    · grind
    · grind
    · grind
    · grind
    · grind
    · grind
theorem alike_iff (sh r : List W) (T : Told) : alikeB sh (r, T) = true ↔ r ∈ rowsT T ∧ (T.g ∈ r → W.go ∈ sh) ∧ (T.d ∈ r → W.drop ∈ sh) ∧ (T.b ∈ r → W.ret ∈ sh) := by
  unfold alikeB alikeB1
  show (decide (r ∈ rowsT T) && (!((decide (T.g ∈ r) && !decide (W.go ∈ sh)) || (decide (T.d ∈ r) && !decide (W.drop ∈ sh))) && !(decide (T.b ∈ r) && !decide (W.ret ∈ sh)))) = true ↔ _
  by_cases h1 : r ∈ rowsT T <;> by_cases h2 : T.g ∈ r <;> by_cases h3 : W.go ∈ sh <;> by_cases h4 : T.d ∈ r <;> by_cases h5 : W.drop ∈ sh <;> by_cases h6 : T.b ∈ r <;> by_cases h7 : W.ret ∈ sh <;> simp [h1, h2, h3, h4, h5, h6, h7]
theorem endQ_iff (sh r : List W) (T : Told) : endQ sh (r, T) = true ↔ (W.go ∈ sh → T.k ∈ r) ∧ (W.ended ∈ sh → W.go ∈ sh → T.g ∈ r) ∧ (W.ended ∈ sh → W.drop ∈ sh → T.d ∈ r) ∧ (W.returned ∈ sh → T.b ∈ r) := by
  unfold endQ endQ1
  show (!((decide (W.go ∈ sh) && !decide (T.k ∈ r)) || (decide (W.ended ∈ sh) && (decide (W.go ∈ sh) && !decide (T.g ∈ r)))) && (!(decide (W.ended ∈ sh) && (decide (W.drop ∈ sh) && !decide (T.d ∈ r))) && !(decide (W.returned ∈ sh) && !decide (T.b ∈ r)))) = true ↔ _
  by_cases h1 : W.go ∈ sh <;> by_cases h2 : T.k ∈ r <;> by_cases h3 : W.ended ∈ sh <;> by_cases h4 : T.g ∈ r <;> by_cases h5 : W.drop ∈ sh <;> by_cases h6 : T.d ∈ r <;> by_cases h7 : W.returned ∈ sh <;> by_cases h8 : T.b ∈ r <;> simp [h1, h2, h3, h4, h5, h6, h7, h8]
theorem fine_dealP {S : Setup} (wf : SW S) {log : Log} {heard : List Hrd} {logs : List Log} {bank : Log} {letters : List Let} {d : Deal} (hd : d ∈ S.2.1) : dealFineB S (log, heard, logs, bank, letters) d = true ↔ DealP (rowOf log d.1) (rowOf bank d.1) (housesIn S) (housesOf S d.1) (rowAt (rowsF S logs d.1)) := by
  have oi : ∀ h, h ∈ housesOf S d.1 ↔ h ∈ housesIn S ∧ ownB S d h = true := fun h => own_iff wf hd
  show (decide (rowOf log d.1 ∈ waysL) && (((housesIn S).all fun h => !ownBad S d (rowAt (rowsF S logs d.1)) h) && (((alikes S (rowAt (rowsF S logs d.1)) (rowOf bank d.1)).all (alikeB (rowOf log d.1))) && ((ends S d (rowAt (rowsF S logs d.1)) (rowOf bank d.1)).all (endQ (rowOf log d.1)))))) = true ↔ _
  generalize rowAt (rowsF S logs d.1) = row
  generalize rowOf log d.1 = sh
  generalize rowOf bank d.1 = bk
  generalize housesOf S d.1 = own at oi ⊢
  have a1 : (alikes S row bk).all (alikeB sh) = true ↔ (∀ h ∈ housesIn S, alikeB sh (row h, houseT) = true) ∧ alikeB sh (bk, bankT) = true := by
    unfold alikes
    rw [List.all_append, Bool.and_eq_true, List.all_map, List.all_eq_true]
    simp
  have a2 : (ends S d row bk).all (endQ sh) = true ↔ (∀ h ∈ own, endQ sh (row h, houseT) = true) ∧ endQ sh (bk, bankT) = true := by
    unfold ends
    rw [List.all_append, Bool.and_eq_true, List.all_map, List.all_eq_true]
    refine and_congr ⟨fun q h m => q h (List.mem_filter.mpr ((oi h).mp m)), fun q h m => q h ((oi h).mpr (List.mem_filter.mp m))⟩ ?_
    simp
  have a3 : ((housesIn S).all fun h => !ownBad S d row h) = true ↔ ∀ h ∈ housesIn S, row h = [] ∨ h ∈ own := by
    rw [List.all_eq_true]
    refine forall_congr' fun h => forall_congr' fun m => ?_
    rw [oi h]
    unfold ownBad
    by_cases e : row h = [] <;> by_cases o : ownB S d h = true <;> simp [e, o, m]
  rw [Bool.and_eq_true, Bool.and_eq_true, Bool.and_eq_true, decide_eq_true_eq, ways_iff, a1, a2, a3, alike_iff, endQ_iff]
  simp only [alike_iff, endQ_iff]
  constructor
  · rintro ⟨q1, q2, ⟨q3, q4⟩, q5, q6⟩
    exact ⟨q1, fun h m => ⟨(q3 h m).1, q2 h m⟩, fun h m => (q3 h m).2, q4.1, q4.2, fun g => ⟨q6.1 g, fun h m => (q5 h m).1 g⟩, fun e g => ⟨q6.2.1 e g, fun h m => (q5 h m).2.1 e g⟩, fun e g => ⟨q6.2.2.1 e g, fun h m => (q5 h m).2.2.1 e g⟩, fun g => ⟨q6.2.2.2 g, fun h m => (q5 h m).2.2.2 g⟩⟩
  · rintro ⟨p1, p2, p3, p4, p5, p6, p7, p8, p9⟩
    exact ⟨p1, fun h m => (p2 h m).2, ⟨fun h m => ⟨(p2 h m).1, p3 h m⟩, p4, p5⟩, fun h m => ⟨fun g => (p6 g).2 h m, fun e g => (p7 e g).2 h m, fun e g => (p8 e g).2 h m, fun g => (p9 g).2 h m⟩, fun g => (p6 g).1, fun e g => (p7 e g).1, fun e g => (p8 e g).1, fun g => (p9 g).1⟩
theorem faults_fine {S : Setup} (sv : SV S) {st : State} (hs : isStB S st = true) : decide (faultsIn S st = []) = fineB S st := by
  obtain ⟨log, heard, logs, bank, letters⟩ := st
  have wf := sv.toSW
  unfold isStB at hs
  rw [Bool.and_eq_true, Bool.and_eq_true, Bool.and_eq_true, decide_eq_true_eq, List.all_eq_true] at hs
  obtain ⟨_, hl, _, ok⟩ := hs
  have hl' : logs.length = (housesIn S).length := hl
  have ok' : ∀ g ∈ logs, isLog g houseWs (S.2.1.map (·.1)) = true := ok
  rw [Bool.eq_iff_iff, decide_eq_true_eq]
  unfold faultsIn faultsD faultsC faultsT fineB
  rw [fold_nil, fold_nil, fold_nil, Bool.and_eq_true, Bool.and_eq_true, List.all_eq_true, zeroB_iff, zeroB_iff]
  simp only [iff1_nil, bad_thing sv, bad_coin sv, decide_eq_false_iff_not, List.mem_map, forall_exists_index, and_imp, forall_apply_eq_imp_iff₂, true_and]
  have eF : ∀ s ∈ S.1, uD S logs S.2.1 (fun _ => 0) s.1 = usedAt S (logAt S logs s.2.1) s.2.1 S.2.1 s.1 := fun s hs => by
    rw [uD_used wf hl' ok' hs S.2.1 _ fun d h => h]
    omega
  have eW : ∀ b : Buy, vD bank S.2.1 (fun _ => 0) b.1 = usedB bank S.2.1 b.1 := fun b => by
    rw [vD_used]
    omega
  constructor
  · rintro ⟨⟨h1, h2⟩, h3⟩
    refine ⟨fun d hd => (fine_dealP wf hd).mpr ((faults_dealP hl' d.1).mp (h3 d hd)), fun s hs => ?_, fun b hb => ?_⟩
    · have z := h1 s hs
      have y := eF s hs
      show 0 ≤ s.2.2 - uD S logs S.2.1 (fun _ => 0) s.1
      rw [y]; omega
    · have z := h2 b hb
      have y := eW b
      show 0 ≤ b.2 - vD bank S.2.1 (fun _ => 0) b.1
      rw [y]
      have z' : ¬ b.2 - usedB bank S.2.1 b.1 < 0 := z
      omega
  · rintro ⟨h1, h2, h3⟩
    refine ⟨⟨fun s hs => ?_, fun b hb => ?_⟩, fun d hd => (faults_dealP hl' d.1).mpr ((fine_dealP wf hd).mp (h1 d hd))⟩
    · have z := h2 s hs
      rw [eF s hs] at z
      omega
    · have z := h3 b hb
      rw [eW b] at z
      show ¬ b.2 - usedB bank S.2.1 b.1 < 0
      omega
end Sh
/-! M2c: one step of a keeper. -/
namespace Sh
def toldOf (who : W) : Told := if who = .bank then bankT else houseT
def keepLog (S : Setup) (logs : List Log) (bank : Log) (who : W) : Log := if who = .bank then bank else logAt S logs who
/-- what a word answered means of the keeper's log -/
def tw : W → Option W
  | .reserved => some .reserved
  | .sent => some .sent
  | .released => some .released
  | .restocked => some .back
  | .held => some .held
  | .taken => some .taken
  | .freed => some .freed
  | .refunded => some .refunded
  | _ => none
def TrueW (log : Log) (d word : W) : Prop := ∀ u, tw word = some u → (u, d) ∈ log
theorem TrueW.mono {log log' : Log} {d word : W} (h : TrueW log d word) (m : ∀ p ∈ log, p ∈ log') : TrueW log' d word := fun u e => m _ (h u e)
structure KStep (T : Told) (R : List W) (ws : List W) (d : W) (log : Log) (r : Log × Option W) : Prop where
  g : r.1 = log ∨ ∃ v ∈ ws, r.1 = log ++ [(v, d)]
  q : QR T R (rowOf r.1 d)
  a : ∀ v, r.2 = some v → TrueW r.1 d v
theorem row_snoc (log : Log) (v d : W) : rowOf (log ++ [(v, d)]) d = rowOf log d ++ [v] := by
  rw [row_app]; exact if_pos rfl
theorem row_snoc_ne (log : Log) {v d e : W} (h : e ≠ d) : rowOf (log ++ [(v, d)]) e = rowOf log e := by
  rw [row_app]; exact if_neg fun z => h z.symm
theorem k_same {T : Told} {R ws : List W} {d : W} {log : Log} {a : Option W} (q : QR T R (rowOf log d)) (h : ∀ v u, a = some v → tw v = some u → u ∈ rowOf log d) : KStep T R ws d log (log, a) :=
  ⟨.inl rfl, q, fun v e u e2 => row_mem.mp (h v u e e2)⟩
theorem k_app {T : Told} {R ws : List W} {d v : W} {log : Log} {a : Option W} (hv : v ∈ ws) (q : QR T R (rowOf log d ++ [v])) (h : ∀ x u, a = some x → tw x = some u → u ∈ rowOf log d ++ [v]) : KStep T R ws d log (log ++ [(v, d)], a) :=
  ⟨.inr ⟨v, hv, rfl⟩, by rw [row_snoc]; exact q, fun x e u e2 => row_mem.mp (by rw [row_snoc]; exact h x u e e2)⟩
theorem tw_of {a : Option W} {x : W} {r : List W} (e : a = some x) (m : ∀ u, tw x = some u → u ∈ r) : ∀ v u, a = some v → tw v = some u → u ∈ r := fun v u e1 e2 => by
  rw [e] at e1
  cases e1
  exact m u e2
theorem house_keep {S : Setup} {log : Log} {h w d : W} {R : List W} (q : QR houseT R (rowOf log d)) (n1 : w = .send → W.go ∈ R) (n2 : w = .release → W.drop ∈ R) (n3 : w = .restock → W.ret ∈ R) : KStep houseT R houseWs d log (houseStep S log h w d) := by
  have r0 := q.r0
  have st := stand_last log d
  have hw : ∀ v ∈ houseWs, v = .reserved ∨ v = .sent ∨ v = .released ∨ v = .back := by decide
  unfold houseStep
  simp only [rowsT, houseT, List.mem_cons, List.not_mem_nil, or_false] at r0
  by_cases w1 : w = .reserve
  · rw [if_pos w1]
    by_cases s0 : standOf log d = .em
    · rw [if_neg fun z => z s0]
      have e : rowOf log d = [] := keep_em houseT_ok q.r0 (st ▸ s0)
      by_cases hr : hasRoom S log h d = true
      · rw [if_pos hr]
        refine k_app (by decide) (q.app (by rw [e]; decide) (fun z => by cases z) (fun z => by cases z) (fun z => by cases z)) (tw_of rfl fun u e => ?_)
        cases e
        exact List.mem_append_right _ (.head _)
      · rw [if_neg hr]
        exact k_same q (tw_of rfl fun u e => by cases e)
    · rw [if_pos s0]
      refine k_same q (tw_of rfl fun u e => ?_)
      by_cases s1 : standOf log d = .released
      · rw [if_pos s1] at e
        cases e
        exact last_mem (st ▸ s1) (by decide)
      · rw [if_neg s1] at e
        cases e
        rcases r0 with z | z | z | z | z | z <;> rw [z] at st ⊢ <;> first | exact absurd st s0 | exact absurd st s1 | decide
  · rw [if_neg w1]
    by_cases w2 : w = .send ∧ standOf log d ∈ [W.reserved, .sent, .back]
    · rw [if_pos w2]
      by_cases s0 : standOf log d = .reserved
      · rw [if_pos s0]
        have e : rowOf log d = [W.reserved] := keep_k houseT_ok q.r0 (st ▸ s0)
        refine k_app (by decide) (q.app (by rw [e]; decide) (fun _ => n1 w2.1) (fun z => by cases z) (fun z => by cases z)) (tw_of rfl fun u e => ?_)
        cases e
        exact List.mem_append_right _ (.head _)
      · rw [if_neg s0]
        refine k_same q (tw_of rfl fun u e => ?_)
        cases e
        have w3 := w2.2
        simp only [List.mem_cons, List.not_mem_nil, or_false] at w3
        rcases w3 with z | z | z
        · exact absurd z s0
        · exact last_mem (st ▸ z) (by decide)
        · have e := keep_b houseT_ok q.r0 (st ▸ z); rw [e]; decide
    · rw [if_neg w2]
      by_cases w3 : w = .release ∧ standOf log d ∈ [W.em, .reserved, .released]
      · rw [if_pos w3]
        by_cases s0 : standOf log d = .released
        · rw [if_pos s0]
          refine k_same q (tw_of rfl fun u e => ?_)
          cases e
          exact last_mem (st ▸ s0) (by decide)
        · rw [if_neg s0]
          refine k_app (by decide) (q.app ?_ (fun z => by cases z) (fun _ => n2 w3.1) (fun z => by cases z)) (tw_of rfl fun u e => ?_)
          · have w4 := w3.2
            simp only [List.mem_cons, List.not_mem_nil, or_false] at w4
            rcases w4 with z | z | z
            · rw [keep_em houseT_ok q.r0 (st ▸ z)]; decide
            · have e : rowOf log d = [W.reserved] := keep_k houseT_ok q.r0 (st ▸ z)
              rw [e]; decide
            · exact absurd z s0
          · cases e
            exact List.mem_append_right _ (.head _)
      · rw [if_neg w3]
        by_cases w4 : w = .restock ∧ standOf log d ∈ [W.sent, .back]
        · rw [if_pos w4]
          by_cases s0 : standOf log d = .sent
          · rw [if_pos s0]
            have e : rowOf log d = [W.reserved, .sent] := keep_g houseT_ok q.r0 (st ▸ s0)
            refine k_app (by decide) (q.app (by rw [e]; decide) (fun z => by cases z) (fun z => by cases z) (fun _ => n3 w4.1)) (tw_of rfl fun u e => ?_)
            cases e
            exact List.mem_append_right _ (.head _)
          · rw [if_neg s0]
            refine k_same q (tw_of rfl fun u e => ?_)
            cases e
            have w5 := w4.2
            simp only [List.mem_cons, List.not_mem_nil, or_false] at w5
            rcases w5 with z | z
            · exact absurd z s0
            · exact last_mem (st ▸ z) (by decide)
        · rw [if_neg w4]
          exact k_same q (fun v u e => by cases e)
theorem bank_keep {S : Setup} {log : Log} {w d : W} {R : List W} (q : QR bankT R (rowOf log d)) (n1 : w = .take → W.go ∈ R) (n2 : w = .free → W.drop ∈ R) (n3 : w = .refund → W.ret ∈ R) : KStep bankT R bankWs d log (bankStep S log w d) := by
  have r0 := q.r0
  have st := stand_last log d
  unfold bankStep
  simp only [rowsT, bankT, List.mem_cons, List.not_mem_nil, or_false] at r0
  by_cases w1 : w = .hold
  · rw [if_pos w1]
    by_cases s0 : standOf log d = .em
    · rw [if_neg fun z => z s0]
      have e : rowOf log d = [] := keep_em bankT_ok q.r0 (st ▸ s0)
      by_cases hr : hasCoins S log d = true
      · rw [if_pos hr]
        refine k_app (by decide) (q.app (by rw [e]; decide) (fun z => by cases z) (fun z => by cases z) (fun z => by cases z)) (tw_of rfl fun u e => ?_)
        cases e
        exact List.mem_append_right _ (.head _)
      · rw [if_neg hr]
        exact k_same q (tw_of rfl fun u e => by cases e)
    · rw [if_pos s0]
      refine k_same q (tw_of rfl fun u e => ?_)
      by_cases s1 : standOf log d = .freed
      · rw [if_pos s1] at e
        cases e
        exact last_mem (st ▸ s1) (by decide)
      · rw [if_neg s1] at e
        cases e
        rcases r0 with z | z | z | z | z | z <;> rw [z] at st ⊢ <;> first | exact absurd st s0 | exact absurd st s1 | decide
  · rw [if_neg w1]
    by_cases w2 : w = .take ∧ standOf log d ∈ [W.held, .taken, .refunded]
    · rw [if_pos w2]
      by_cases s0 : standOf log d = .held
      · rw [if_pos s0]
        have e : rowOf log d = [W.held] := keep_k bankT_ok q.r0 (st ▸ s0)
        refine k_app (by decide) (q.app (by rw [e]; decide) (fun _ => n1 w2.1) (fun z => by cases z) (fun z => by cases z)) (tw_of rfl fun u e => ?_)
        cases e
        exact List.mem_append_right _ (.head _)
      · rw [if_neg s0]
        refine k_same q (tw_of rfl fun u e => ?_)
        cases e
        have w3 := w2.2
        simp only [List.mem_cons, List.not_mem_nil, or_false] at w3
        rcases w3 with z | z | z
        · exact absurd z s0
        · exact last_mem (st ▸ z) (by decide)
        · have e := keep_b bankT_ok q.r0 (st ▸ z); rw [e]; decide
    · rw [if_neg w2]
      by_cases w3 : w = .free ∧ standOf log d ∈ [W.em, .held, .freed]
      · rw [if_pos w3]
        by_cases s0 : standOf log d = .freed
        · rw [if_pos s0]
          refine k_same q (tw_of rfl fun u e => ?_)
          cases e
          exact last_mem (st ▸ s0) (by decide)
        · rw [if_neg s0]
          refine k_app (by decide) (q.app ?_ (fun z => by cases z) (fun _ => n2 w3.1) (fun z => by cases z)) (tw_of rfl fun u e => ?_)
          · have w4 := w3.2
            simp only [List.mem_cons, List.not_mem_nil, or_false] at w4
            rcases w4 with z | z | z
            · rw [keep_em bankT_ok q.r0 (st ▸ z)]; decide
            · have e : rowOf log d = [W.held] := keep_k bankT_ok q.r0 (st ▸ z)
              rw [e]; decide
            · exact absurd z s0
          · cases e
            exact List.mem_append_right _ (.head _)
      · rw [if_neg w3]
        by_cases w4 : w = .refund ∧ standOf log d ∈ [W.taken, .refunded]
        · rw [if_pos w4]
          by_cases s0 : standOf log d = .taken
          · rw [if_pos s0]
            have e : rowOf log d = [W.held, .taken] := keep_g bankT_ok q.r0 (st ▸ s0)
            refine k_app (by decide) (q.app (by rw [e]; decide) (fun z => by cases z) (fun z => by cases z) (fun _ => n3 w4.1)) (tw_of rfl fun u e => ?_)
            cases e
            exact List.mem_append_right _ (.head _)
          · rw [if_neg s0]
            refine k_same q (tw_of rfl fun u e => ?_)
            cases e
            have w5 := w4.2
            simp only [List.mem_cons, List.not_mem_nil, or_false] at w5
            rcases w5 with z | z
            · exact absurd z s0
            · exact last_mem (st ▸ z) (by decide)
        · rw [if_neg w4]
          exact k_same q (fun v u e => by cases e)
/-! ### what is bound, after a step -/
theorem partSum_nn {ps : List Prt} (h : ∀ p ∈ ps, 0 ≤ p.2) (x : W) : 0 ≤ partSum ps x := by
  unfold partSum
  induction ps with
  | nil => exact Int.le_refl _
  | cons p r ih =>
    rw [List.map_cons, List.sum_cons]
    have z := h p (.head _)
    have y := ih fun q hq => h q (.tail _ hq)
    split <;> omega
theorem partSum_nd : ∀ {ps : List Prt} (x : W), (ps.map (·.1)).Nodup → partSum ps x = 0 ∨ ∃ p ∈ ps, p.1 = x ∧ partSum ps x = p.2
  | [], _, _ => .inl rfl
  | p :: r, x, nd => by
    rw [List.map_cons, List.nodup_cons] at nd
    have s : partSum (p :: r) x = (if p.1 = x then p.2 else 0) + partSum r x := by unfold partSum; rw [List.map_cons, List.sum_cons]
    rw [s]
    by_cases e : p.1 = x
    · refine .inr ⟨p, .head _, e, ?_⟩
      rw [if_pos e]
      rcases partSum_nd x nd.2 with z | ⟨q, hq, e2, _⟩
      · omega
      · exact absurd (List.mem_map.mpr ⟨q, hq, e2.trans e.symm⟩) nd.1
    · rw [if_neg e]
      rcases partSum_nd x nd.2 with z | ⟨q, hq, e2, z⟩
      · exact .inl (by omega)
      · exact .inr ⟨q, .tail _ hq, e2, by omega⟩
theorem stand_snoc (log : Log) (v d e : W) : standOf (log ++ [(v, d)]) e = if d = e then v else standOf log e := stand_app log (v, d) e
theorem used_cons (S : Setup) (log : Log) (h : W) (d : Deal) (ds : List Deal) (x : W) : usedAt S log h (d :: ds) x = (if standOf log d.1 ∈ three then partSum (partsAt S d.1 h) x else 0) + usedAt S log h ds x := by
  unfold usedAt; rw [List.map_cons, List.sum_cons]
theorem used_le {S : Setup} {log : Log} {h v n x : W} (hv : v ∈ three → standOf log n ∈ three) : ∀ {ds : List Deal}, (∀ d ∈ ds, 0 ≤ partSum (partsAt S d.1 h) x) → usedAt S (log ++ [(v, n)]) h ds x ≤ usedAt S log h ds x
  | [], _ => Int.le_refl _
  | d :: ds, nn => by
    rw [used_cons, used_cons]
    have ih := used_le hv (ds := ds) fun d hd => nn d (.tail _ hd)
    have z := nn d (.head _)
    rw [stand_snoc]
    by_cases e : n = d.1
    · rw [if_pos e]
      by_cases m : v ∈ three
      · rw [if_pos m, if_pos (show standOf log d.1 ∈ _ by rw [← e]; exact hv m)]; omega
      · rw [if_neg m]; split <;> omega
    · rw [if_neg e]; omega
theorem used_off {S : Setup} {log : Log} {h v n x : W} : ∀ {ds : List Deal}, n ∉ ds.map (·.1) → usedAt S (log ++ [(v, n)]) h ds x = usedAt S log h ds x
  | [], _ => rfl
  | d :: ds, nn => by
    rw [List.map_cons, List.mem_cons, not_or] at nn
    rw [used_cons, used_cons, used_off nn.2, stand_snoc, if_neg nn.1]
theorem used_room {S : Setup} {log : Log} {h v n x : W} (p0 : 0 ≤ partSum (partsAt S n h) x) : ∀ {ds : List Deal}, (ds.map (·.1)).Nodup → usedAt S (log ++ [(v, n)]) h ds x ≤ usedAt S log h ds x + partSum (partsAt S n h) x
  | [], _ => by show (0 : Int) ≤ 0 + _; omega
  | d :: ds, nd => by
    rw [List.map_cons, List.nodup_cons] at nd
    rw [used_cons, used_cons, stand_snoc]
    by_cases e : n = d.1
    · rw [if_pos e, used_off (by rw [e]; exact nd.1), ← e]
      split <;> split <;> omega
    · rw [if_neg e]
      have ih := used_room (v := v) (log := log) p0 nd.2
      omega
theorem room_le {S : Setup} (sv : SV S) {log : Log} {h n : W} (hn : n ∈ S.2.1.map (·.1)) (hr : hasRoom S log h n = true) {s : Sup} (hs : s ∈ S.1) (e : s.2.1 = h) (h0 : usedAt S log h S.2.1 s.1 ≤ s.2.2) : usedAt S log h S.2.1 s.1 + partSum (partsAt S n h) s.1 ≤ s.2.2 := by
  have wf := sv.toSW
  obtain ⟨hd, e1⟩ := deal_mem hn
  have nd : ((partsAt S n h).map (·.1)).Nodup := List.Sublist.nodup (List.Sublist.map _ List.filter_sublist) (wf.pn _ hd)
  rcases partSum_nd s.1 nd with z | ⟨p, hp, e2, z⟩
  · omega
  · unfold hasRoom at hr
    rw [List.all_eq_true] at hr
    have y := of_decide_eq_true (hr p hp)
    unfold counts at y
    rw [e2, kv4_look wf _ hs e] at y
    have tt := cF_tot S log h s.1 S.2.1 (fun _ _ => 0)
    unfold tot at tt
    dsimp only at tt
    have y' : p.2 ≤ s.2.2 - cF S log h S.2.1 (fun _ _ => 0) s.1 .reserved - cF S log h S.2.1 (fun _ _ => 0) s.1 .sent - cF S log h S.2.1 (fun _ _ => 0) s.1 .back := y
    omega
theorem house_form {S : Setup} {log : Log} {h w d : W} : (houseStep S log h w d).1 = log ∨ ∃ v, (houseStep S log h w d).1 = log ++ [(v, d)] ∧ ((v ∈ three → standOf log d ∈ three) ∨ hasRoom S log h d = true) := by
  unfold houseStep
  by_cases w1 : w = .reserve
  · rw [if_pos w1]
    by_cases s0 : standOf log d = .em
    · rw [if_neg fun z => z s0]
      by_cases hr : hasRoom S log h d = true
      · rw [if_pos hr]; exact .inr ⟨_, rfl, .inr hr⟩
      · rw [if_neg hr]; exact .inl rfl
    · rw [if_pos s0]; exact .inl rfl
  · rw [if_neg w1]
    by_cases w2 : w = .send ∧ standOf log d ∈ [W.reserved, .sent, .back]
    · rw [if_pos w2]
      by_cases s0 : standOf log d = .reserved
      · rw [if_pos s0]; exact .inr ⟨_, rfl, .inl fun _ => w2.2⟩
      · rw [if_neg s0]; exact .inl rfl
    · rw [if_neg w2]
      by_cases w3 : w = .release ∧ standOf log d ∈ [W.em, .reserved, .released]
      · rw [if_pos w3]
        by_cases s0 : standOf log d = .released
        · rw [if_pos s0]; exact .inl rfl
        · rw [if_neg s0]; exact .inr ⟨_, rfl, .inl fun z => absurd z (by decide)⟩
      · rw [if_neg w3]
        by_cases w4 : w = .restock ∧ standOf log d ∈ [W.sent, .back]
        · rw [if_pos w4]
          by_cases s0 : standOf log d = .sent
          · rw [if_pos s0]; exact .inr ⟨_, rfl, .inl fun _ => by rw [s0]; decide⟩
          · rw [if_neg s0]; exact .inl rfl
        · rw [if_neg w4]; exact .inl rfl
theorem part_nn {S : Setup} (sv : SV S) {d : Deal} (hd : d ∈ S.2.1) (h x : W) : 0 ≤ partSum (partsAt S d.1 h) x :=
  partSum_nn (fun p hp => by have := (sv.c2 d hd p (parts_sub sv.toSW hd hp).1).1; omega) x
theorem house_free {S : Setup} (sv : SV S) {log : Log} {h w n : W} (hn : n ∈ S.2.1.map (·.1)) {s : Sup} (hs : s ∈ S.1) (e : s.2.1 = h) (h0 : usedAt S log h S.2.1 s.1 ≤ s.2.2) : usedAt S (houseStep S log h w n).1 h S.2.1 s.1 ≤ s.2.2 := by
  obtain ⟨d, hd, en⟩ := List.mem_map.mp hn
  rcases house_form (S := S) (log := log) (h := h) (w := w) (d := n) with z | ⟨v, z, y⟩
  · rw [z]; exact h0
  · rw [z]
    rcases y with y | y
    · exact Int.le_trans (used_le y fun d hd => part_nn sv hd h s.1) h0
    · have p0 : 0 ≤ partSum (partsAt S n h) s.1 := by rw [← en]; exact part_nn sv hd h s.1
      exact Int.le_trans (used_room p0 sv.toSW.dn) (room_le sv hn y hs e h0)
/-! the bank -/
theorem usedB_cons (log : Log) (d : Deal) (ds : List Deal) (x : W) : usedB log (d :: ds) x = (if standOf log d.1 ∈ twoB then (if d.2.1 = x then d.2.2.2 else 0) else 0) + usedB log ds x := by
  unfold usedB; rw [List.map_cons, List.sum_cons]
theorem usedB_le {log : Log} {v n x : W} (hv : v ∈ twoB → standOf log n ∈ twoB) : ∀ {ds : List Deal}, (∀ d ∈ ds, 0 ≤ d.2.2.2) → usedB (log ++ [(v, n)]) ds x ≤ usedB log ds x
  | [], _ => Int.le_refl _
  | d :: ds, nn => by
    rw [usedB_cons, usedB_cons]
    have ih := usedB_le hv (ds := ds) (x := x) fun d hd => nn d (.tail _ hd)
    have z := nn d (.head _)
    rw [stand_snoc]
    by_cases e : n = d.1
    · rw [if_pos e]
      by_cases m : v ∈ twoB
      · rw [if_pos m, if_pos (show standOf log d.1 ∈ _ by rw [← e]; exact hv m)]; omega
      · rw [if_neg m]; split <;> (try split) <;> omega
    · rw [if_neg e]; omega
theorem usedB_off {log : Log} {v n x : W} : ∀ {ds : List Deal}, n ∉ ds.map (·.1) → usedB (log ++ [(v, n)]) ds x = usedB log ds x
  | [], _ => rfl
  | d :: ds, nn => by
    rw [List.map_cons, List.mem_cons, not_or] at nn
    rw [usedB_cons, usedB_cons, usedB_off nn.2, stand_snoc, if_neg nn.1]
theorem usedB_room {log : Log} {v x : W} {c : Deal} (c0 : 0 ≤ c.2.2.2) : ∀ {ds : List Deal}, (ds.map (·.1)).Nodup → (∀ d ∈ ds, d.1 = c.1 → d = c) → usedB (log ++ [(v, c.1)]) ds x ≤ usedB log ds x + (if c.2.1 = x then c.2.2.2 else 0)
  | [], _, _ => by show (0 : Int) ≤ 0 + _; split <;> omega
  | d :: ds, nd, un => by
    rw [List.map_cons, List.nodup_cons] at nd
    rw [usedB_cons, usedB_cons, stand_snoc]
    by_cases e : c.1 = d.1
    · have ed : d = c := un d (.head _) e.symm
      rw [if_pos e, usedB_off (by rw [e]; exact nd.1), ed]
      split <;> split <;> split <;> omega
    · rw [if_neg e]
      have ih := usedB_room (v := v) (log := log) (x := x) c0 nd.2 fun d hd => un d (.tail _ hd)
      omega
theorem bank_form {S : Setup} {log : Log} {w d : W} : (bankStep S log w d).1 = log ∨ ∃ v, (bankStep S log w d).1 = log ++ [(v, d)] ∧ ((v ∈ twoB → standOf log d ∈ twoB) ∨ hasCoins S log d = true) := by
  unfold bankStep
  by_cases w1 : w = .hold
  · rw [if_pos w1]
    by_cases s0 : standOf log d = .em
    · rw [if_neg fun z => z s0]
      by_cases hr : hasCoins S log d = true
      · rw [if_pos hr]; exact .inr ⟨_, rfl, .inr hr⟩
      · rw [if_neg hr]; exact .inl rfl
    · rw [if_pos s0]; exact .inl rfl
  · rw [if_neg w1]
    by_cases w2 : w = .take ∧ standOf log d ∈ [W.held, .taken, .refunded]
    · rw [if_pos w2]
      by_cases s0 : standOf log d = .held
      · rw [if_pos s0]; exact .inr ⟨_, rfl, .inl fun _ => by rw [s0]; decide⟩
      · rw [if_neg s0]; exact .inl rfl
    · rw [if_neg w2]
      by_cases w3 : w = .free ∧ standOf log d ∈ [W.em, .held, .freed]
      · rw [if_pos w3]
        by_cases s0 : standOf log d = .freed
        · rw [if_pos s0]; exact .inl rfl
        · rw [if_neg s0]; exact .inr ⟨_, rfl, .inl fun z => absurd z (by decide)⟩
      · rw [if_neg w3]
        by_cases w4 : w = .refund ∧ standOf log d ∈ [W.taken, .refunded]
        · rw [if_pos w4]
          by_cases s0 : standOf log d = .taken
          · rw [if_pos s0]; exact .inr ⟨_, rfl, .inl fun z => absurd z (by decide)⟩
          · rw [if_neg s0]; exact .inl rfl
        · rw [if_neg w4]; exact .inl rfl
theorem coins_le {S : Setup} (sv : SV S) {log : Log} {n : W} (hn : n ∈ S.2.1.map (·.1)) (hr : hasCoins S log n = true) {b : Buy} (hb : b ∈ S.2.2) (h0 : usedB log S.2.1 b.1 ≤ b.2) : usedB log S.2.1 b.1 + (if (dealOf S n).2.1 = b.1 then (dealOf S n).2.2.2 else 0) ≤ b.2 := by
  have wf := sv.toSW
  by_cases e : (dealOf S n).2.1 = b.1
  · rw [if_pos e]
    have y := of_decide_eq_true hr
    unfold coins at y
    rw [e, kv3_look wf _ hb] at y
    have tt := cG_tot log b.1 S.2.1 (fun _ _ => 0)
    unfold totB at tt
    dsimp only at tt
    have y' : (dealOf S n).2.2.2 ≤ b.2 - cG log S.2.1 (fun _ _ => 0) b.1 .held - cG log S.2.1 (fun _ _ => 0) b.1 .taken := y
    omega
  · rw [if_neg e]; omega
theorem bank_free {S : Setup} (sv : SV S) {log : Log} {w n : W} (hn : n ∈ S.2.1.map (·.1)) {b : Buy} (hb : b ∈ S.2.2) (h0 : usedB log S.2.1 b.1 ≤ b.2) : usedB (bankStep S log w n).1 S.2.1 b.1 ≤ b.2 := by
  obtain ⟨hd, en⟩ := deal_mem hn
  rcases bank_form (S := S) (log := log) (w := w) (d := n) with z | ⟨v, z, y⟩
  · rw [z]; exact h0
  · rw [z]
    rcases y with y | y
    · exact Int.le_trans (usedB_le y fun d hd => (sv.c3 d hd).1) h0
    · have r := usedB_room (log := log) (v := v) (x := b.1) (sv.c3 _ hd).1 sv.toSW.dn fun d h e => nodup_fst sv.toSW.dn h hd e
      rw [en] at r
      exact Int.le_trans r (coins_le sv hn y hb h0)
end Sh
/-! M2d: the invariant of the states that events reach. -/
namespace Sh
theorem nodup_sub {α : Type} [DecidableEq α] : ∀ {l m : List α}, l.Nodup → (∀ x ∈ l, x ∈ m) → l.length ≤ m.length
  | [], _, _, _ => Nat.zero_le _
  | x :: l, m, nd, h => by
    rw [List.nodup_cons] at nd
    have hx := h x (.head _)
    have ih := nodup_sub (l := l) (m := m.erase x) nd.2 fun y hy => (List.mem_erase_of_ne fun z => nd.1 (by rw [← z]; exact hy)).mpr (h y (.tail _ hy))
    have e := List.length_erase_of_mem hx
    have p : 0 < m.length := List.length_pos_of_mem hx
    rw [List.length_cons]
    omega
/-- where a letter comes from -/
def LetFine (S : Setup) (log : Log) (K : W → Log) (l : Let) : Prop :=
  l.2.2.1 ∈ S.2.1.map (·.1) ∧ ((l.1 = .shop ∧ l.2.2.2 ∈ partnersOf S l.2.2.1 ∧ TrueW (K l.2.2.2) l.2.2.1 l.2.1) ∨
    (l.1 ∈ partnersOf S l.2.2.1 ∧ l.2.2.2 = .shop ∧ ∃ z a, askW z = some a ∧ (z, l.2.2.1) ∈ log ∧ l.2.1 = pick a l.1))
def HrdFine (S : Setup) (K : W → Log) (x : Hrd) : Prop := x.1 ∈ S.2.1.map (·.1) ∧ x.2.1 ∈ partnersOf S x.1 ∧ TrueW (K x.2.1) x.1 x.2.2
theorem LetFine.mono {S : Setup} {log log' : Log} {K K' : W → Log} {l : Let} (h : LetFine S log K l) (m : ∀ p ∈ log, p ∈ log') (k : ∀ who, ∀ p ∈ K who, p ∈ K' who) : LetFine S log' K' l := by
  obtain ⟨h1, h2⟩ := h
  refine ⟨h1, ?_⟩
  rcases h2 with ⟨e, y, t⟩ | ⟨y, e, z, a, h3, h4, h5⟩
  · exact .inl ⟨e, y, t.mono (k _)⟩
  · exact .inr ⟨y, e, z, a, h3, m _ h4, h5⟩
theorem HrdFine.mono {S : Setup} {K K' : W → Log} {x : Hrd} (h : HrdFine S K x) (k : ∀ who, ∀ p ∈ K who, p ∈ K' who) : HrdFine S K' x := ⟨h.1, h.2.1, h.2.2.mono (k _)⟩
structure Inv (S : Setup) (t : Nat) (st : State) : Prop where
  isS : isStB S st = true
  shop : ∀ d ∈ S.2.1.map (·.1), ShopR (rowOf st.1 d)
  keep : ∀ d ∈ S.2.1.map (·.1), ∀ who ∈ partnersOf S d, QR (toldOf who) (rowOf st.1 d) (rowOf (keepLog S st.2.2.1 st.2.2.2.1 who) d)
  off : ∀ d ∈ S.2.1.map (·.1), ∀ h ∈ housesIn S, h ∉ housesOf S d → rowOf (logAt S st.2.2.1 h) d = []
  hrd : ∀ x ∈ st.2.1, HrdFine S (keepLog S st.2.2.1 st.2.2.2.1) x
  lets : ∀ l ∈ st.2.2.2.2, LetFine S st.1 (keepLog S st.2.2.1 st.2.2.2.1) l
  free : ∀ s ∈ S.1, usedAt S (logAt S st.2.2.1 s.2.1) s.2.1 S.2.1 s.1 ≤ s.2.2
  coin : ∀ b ∈ S.2.2, usedB st.2.2.2.1 S.2.1 b.1 ≤ b.2
  nd : st.2.2.2.2.Nodup
  n1 : (st.2.2.2.2.filter fun l => decide (l.1 = W.shop)).length + st.1.length ≤ t
  n2 : st.2.1.length ≤ t
  n3 : ∀ g ∈ st.2.2.1, g.length ≤ t
  n4 : st.2.2.2.1.length ≤ t
theorem inv_st {S : Setup} {t : Nat} {st : State} (h : Inv S t st) : isStB S st = true := h.isS
theorem isSt_parts {S : Setup} {st : State} (h : isStB S st = true) : isLog st.1 shopWs (S.2.1.map (·.1)) = true ∧ st.2.2.1.length = (housesIn S).length ∧ isLog st.2.2.2.1 bankWs (S.2.1.map (·.1)) = true ∧ ∀ g ∈ st.2.2.1, isLog g houseWs (S.2.1.map (·.1)) = true := by
  unfold isStB at h
  rw [Bool.and_eq_true, Bool.and_eq_true, Bool.and_eq_true, decide_eq_true_eq, List.all_eq_true] at h
  exact h
theorem isSt_mk {S : Setup} {st : State} (h1 : isLog st.1 shopWs (S.2.1.map (·.1)) = true) (h2 : st.2.2.1.length = (housesIn S).length) (h3 : isLog st.2.2.2.1 bankWs (S.2.1.map (·.1)) = true) (h4 : ∀ g ∈ st.2.2.1, isLog g houseWs (S.2.1.map (·.1)) = true) : isStB S st = true := by
  unfold isStB
  rw [Bool.and_eq_true, Bool.and_eq_true, Bool.and_eq_true, decide_eq_true_eq, List.all_eq_true]
  exact ⟨h1, h2, h3, h4⟩
theorem isLog_snoc {log : Log} {ws ns : List W} (h : isLog log ws ns = true) {v d : W} (hv : v ∈ ws) (hd : d ∈ ns) : isLog (log ++ [(v, d)]) ws ns = true := by
  unfold isLog at h ⊢
  rw [List.all_append, h]
  simp [hv, hd]
theorem logAt_rep (S : Setup) (n : Nat) (h : W) : logAt S (List.replicate n []) h = [] := by
  unfold logAt
  rw [List.getElem?_replicate]
  split <;> rfl
theorem used_nil (S : Setup) (h x : W) : ∀ ds : List Deal, usedAt S [] h ds x = 0
  | [] => rfl
  | d :: ds => by
    rw [used_cons, used_nil S h x ds]
    exact (congrArg (· + (0 : Int)) (if_neg (show ¬ W.em ∈ three by decide)))
theorem usedB_nil (x : W) : ∀ ds : List Deal, usedB [] ds x = 0
  | [] => rfl
  | d :: ds => by
    rw [usedB_cons, usedB_nil x ds]
    exact (congrArg (· + (0 : Int)) (if_neg (show ¬ W.em ∈ twoB by decide)))
theorem inv0 {S : Setup} (sv : SV S) : Inv S 0 (firstState S) where
  isS := isSt_mk rfl List.length_replicate rfl fun g hg => by rw [List.eq_of_mem_replicate hg]; rfl
  shop := fun d _ => .inl rfl
  keep := fun d _ who _ => by
    show QR _ (rowOf [] d) (rowOf (keepLog S (List.replicate (housesIn S).length []) [] who) d)
    have : keepLog S (List.replicate (housesIn S).length []) [] who = [] := by
      unfold keepLog
      split
      · rfl
      · exact logAt_rep S _ who
    rw [this]
    exact QR.empty
  off := fun d _ h _ _ => by
    show rowOf (logAt S (List.replicate (housesIn S).length []) h) d = []
    rw [logAt_rep]; rfl
  hrd := fun x hx => by cases hx
  lets := fun x hx => by cases hx
  free := fun s hs => by
    show usedAt S (logAt S (List.replicate (housesIn S).length []) s.2.1) s.2.1 S.2.1 s.1 ≤ s.2.2
    rw [logAt_rep, used_nil]
    exact (sv.c1 s hs).1
  coin := fun b hb => by
    show usedB [] S.2.1 b.1 ≤ b.2
    rw [usedB_nil]
    exact (sv.c4 b hb).1
  nd := .nil
  n1 := Nat.le_refl _
  n2 := Nat.le_refl _
  n3 := fun g hg => by rw [List.eq_of_mem_replicate hg]; exact Nat.le_refl _
  n4 := Nat.le_refl _
/-! ### the shop writes -/
/-- a word that the shop may write -/
structure ShopW (S : Setup) (log : Log) (K : W → Log) (w d : W) : Prop where
  ws : w ∈ shopWs
  r : ShopR (rowOf log d ++ [w])
  q : ∀ who ∈ partnersOf S d, QR (toldOf who) (rowOf log d ++ [w]) (rowOf (K who) d)
theorem Inv.write {S : Setup} {t : Nat} {st : State} (h : Inv S t st) {w d : W} (hd : d ∈ S.2.1.map (·.1)) (sw : ShopW S st.1 (keepLog S st.2.2.1 st.2.2.2.1) w d) {heard : List Hrd} {letters : List Let} (h1 : ∀ x ∈ heard, HrdFine S (keepLog S st.2.2.1 st.2.2.2.1) x) (h2 : heard.length ≤ t + 1) (h3 : ∀ l ∈ letters, l ∈ st.2.2.2.2) (h4 : letters.Nodup) : Inv S (t + 1) (st.1 ++ [(w, d)], heard, st.2.2.1, st.2.2.2.1, letters) where
  isS := by
    obtain ⟨a, b, c, e⟩ := isSt_parts h.isS
    exact isSt_mk (isLog_snoc a sw.ws hd) b c e
  shop := fun e he => by
    show ShopR (rowOf (st.1 ++ [(w, d)]) e)
    by_cases z : e = d
    · rw [z, row_snoc]; exact sw.r
    · rw [row_snoc_ne _ z]; exact h.shop e he
  keep := fun e he who hw => by
    show QR _ (rowOf (st.1 ++ [(w, d)]) e) _
    by_cases z : e = d
    · rw [z] at hw ⊢; rw [row_snoc]; exact sw.q who hw
    · rw [row_snoc_ne _ z]; exact h.keep e he who hw
  off := h.off
  hrd := h1
  lets := fun l hl => (h.lets l (h3 l hl)).mono (fun p hp => List.mem_append_left _ hp) fun _ _ hp => hp
  free := h.free
  coin := h.coin
  nd := h4
  n1 := by
    have a := h.n1
    show (letters.filter fun l => decide (l.1 = W.shop)).length + (st.1 ++ [(w, d)]).length ≤ t + 1
    have b : (letters.filter fun l => decide (l.1 = W.shop)).length ≤ (st.2.2.2.2.filter fun l => decide (l.1 = W.shop)).length :=
      nodup_sub (List.Sublist.nodup List.filter_sublist h4) fun x hx => by
        obtain ⟨y1, y2⟩ := List.mem_filter.mp hx
        exact List.mem_filter.mpr ⟨h3 x y1, y2⟩
    rw [List.length_append, List.length_singleton]
    omega
  n2 := h2
  n3 := fun g hg => Nat.le_succ_of_le (h.n3 g hg)
  n4 := Nat.le_succ_of_le h.n4
/-- nothing written -/
theorem Inv.still {S : Setup} {t : Nat} {st : State} (h : Inv S t st) {heard : List Hrd} {letters : List Let} (h1 : ∀ x ∈ heard, HrdFine S (keepLog S st.2.2.1 st.2.2.2.1) x) (h2 : heard.length ≤ t + 1) (h3 : ∀ l ∈ letters, l ∈ st.2.2.2.2 ∨ (l.1 ≠ .shop ∧ LetFine S st.1 (keepLog S st.2.2.1 st.2.2.2.1) l)) (h4 : letters.Nodup) : Inv S (t + 1) (st.1, heard, st.2.2.1, st.2.2.2.1, letters) where
  isS := h.isS
  shop := h.shop
  keep := h.keep
  off := h.off
  hrd := h1
  lets := fun l hl => by
    rcases h3 l hl with z | z
    · exact h.lets l z
    · exact z.2
  free := h.free
  coin := h.coin
  nd := h4
  n1 := by
    have a := h.n1
    show (letters.filter fun l => decide (l.1 = W.shop)).length + st.1.length ≤ t + 1
    have b : (letters.filter fun l => decide (l.1 = W.shop)).length ≤ (st.2.2.2.2.filter fun l => decide (l.1 = W.shop)).length :=
      nodup_sub (List.Sublist.nodup List.filter_sublist h4) fun x hx => by
        obtain ⟨y1, y2⟩ := List.mem_filter.mp hx
        rcases h3 x y1 with z | z
        · exact List.mem_filter.mpr ⟨z, y2⟩
        · exact absurd (of_decide_eq_true y2) z.1
    omega
  n2 := h2
  n3 := fun g hg => Nat.le_succ_of_le (h.n3 g hg)
  n4 := Nat.le_succ_of_le h.n4
/-! ### partners -/
theorem partner {S : Setup} {d who : W} (h : who ∈ partnersOf S d) : (who = .bank) ∨ (who ∈ housesOf S d) := by
  unfold partnersOf at h
  rcases List.mem_append.mp h with z | z
  · exact .inr z
  · exact .inl (List.mem_singleton.mp z)
theorem house_in_ne {S : Setup} (wf : SW S) {h : W} (m : h ∈ housesIn S) : h ≠ .bank ∧ h ≠ .shop := by
  rcases hin_sub S.1 [] h m with z | ⟨s, hs, e⟩
  · cases z
  · rw [← e]; exact wf.hb s hs
theorem partner_ne {S : Setup} (wf : SW S) {d who : W} (h : who ∈ partnersOf S d) : who ≠ .shop := by
  rcases partner h with z | z
  · rw [z]; decide
  · exact (house_in_ne wf (housesOf_sub z).1).2
theorem keep_house {S : Setup} (wf : SW S) {logs : List Log} {bank : Log} {h : W} (m : h ∈ housesIn S) : keepLog S logs bank h = logAt S logs h := by
  unfold keepLog
  exact if_neg (house_in_ne wf m).1
theorem told_house {S : Setup} (wf : SW S) {h : W} (m : h ∈ housesIn S) : toldOf h = houseT := by
  unfold toldOf
  exact if_neg (house_in_ne wf m).1
/-! ### what is asked, and what was heard -/
theorem asks_none {S : Setup} {log : Log} {heard : List Hrd} {d : W} {a g : W × W} (h : askW (standOf log d) = some a) (h2 : goodW (standOf log d) = some g) (e : asksOf S log heard d = []) : ∀ who ∈ partnersOf S d, (d, who, pick g who) ∈ heard := by
  rw [asksOf_some h h2] at e
  unfold asksF at e
  rw [List.map_eq_nil_iff] at e
  intro who hw
  refine Classical.byContradiction fun n => ?_
  have : who ∈ (partnersOf S d).filter fun who => decide ((d, who, pick g who) ∉ heard) := List.mem_filter.mpr ⟨hw, by simpa using n⟩
  rw [e] at this
  cases this
theorem pick_tw {S : Setup} (wf : SW S) {K : W → Log} {heard : List Hrd} {d : W} {g : W × W} {x y : W} (hh : ∀ x ∈ heard, HrdFine S K x) (all : ∀ who ∈ partnersOf S d, (d, who, pick g who) ∈ heard) (e1 : tw g.1 = some x) (e2 : tw g.2 = some y) : ∀ who ∈ partnersOf S d, (if who = .bank then y else x) ∈ rowOf (K who) d := fun who hw => by
  have z := (hh _ (all who hw)).2.2
  refine row_mem.mpr (z _ ?_)
  show tw (pick g who) = _
  unfold pick
  by_cases b : who = .bank
  · rw [if_pos b, if_pos b]; exact e2
  · rw [if_neg b, if_neg b]; exact e1
theorem inv_next {S : Setup} (sv : SV S) {t : Nat} {st : State} (h : Inv S t st) {d : W} (hd : d ∈ S.2.1.map (·.1)) {hs : List Hrd} (hh : ∀ x ∈ hs, HrdFine S (keepLog S st.2.2.1 st.2.2.2.1) x) : nextLog S st.1 hs d = st.1 ∨ ∃ w, nextLog S st.1 hs d = st.1 ++ [(w, d)] ∧ ShopW S st.1 (keepLog S st.2.2.1 st.2.2.2.1) w d := by
  have wf := sv.toSW
  have sl := stand_last st.1 d
  have sr := h.shop d hd
  have kq := h.keep d hd
  unfold nextLog
  by_cases s1 : standOf st.1 d = .begun
  · rw [if_pos s1]
    have e := shop_begun sr (sl ▸ s1)
    by_cases b : badHeard S hs d = true
    · rw [if_pos b]
      refine .inr ⟨_, rfl, by decide, by rw [e]; exact .inr (by decide), fun who hw => ?_⟩
      have q := kq who hw
      rw [e] at q ⊢
      exact q.drop
    · rw [if_neg b]
      by_cases a : asksOf S st.1 hs d = []
      · rw [if_pos a]
        have al := pick_tw wf hh (asks_none (a := (.reserve, .hold)) (g := (.reserved, .held)) (by rw [s1]; rfl) (by rw [s1]; rfl) a) (x := .reserved) (y := .held) rfl rfl
        refine .inr ⟨_, rfl, by decide, by rw [e]; exact .inr (by decide), fun who hw => ?_⟩
        have q := kq who hw
        rw [e] at q ⊢
        refine q.go ?_
        have z := al who hw
        unfold toldOf
        split
        · rename_i y; rw [if_pos y] at z; exact z
        · rename_i y; rw [if_neg y] at z; exact z
      · rw [if_neg a]; exact .inl rfl
  · rw [if_neg s1]
    by_cases s2 : standOf st.1 d ∈ [W.go, .drop] ∧ asksOf S st.1 hs d = []
    · rw [if_pos s2]
      obtain ⟨s3, a⟩ := s2
      simp only [List.mem_cons, List.not_mem_nil, or_false] at s3
      rcases s3 with s3 | s3
      · have e := shop_go sr (sl ▸ s3)
        have al := pick_tw wf hh (asks_none (a := (.send, .take)) (g := (.sent, .taken)) (by rw [s3]; rfl) (by rw [s3]; rfl) a) (x := .sent) (y := .taken) rfl rfl
        refine .inr ⟨_, rfl, by decide, by rw [e]; exact .inr (by decide), fun who hw => ?_⟩
        have q := kq who hw
        rw [e] at q ⊢
        refine q.ended ?_
        have z := al who hw
        unfold toldOf
        split
        · rename_i y; rw [if_pos y] at z; exact z
        · rename_i y; rw [if_neg y] at z; exact z
      · have e := shop_drop sr (sl ▸ s3)
        have al := pick_tw wf hh (asks_none (a := (.release, .free)) (g := (.released, .freed)) (by rw [s3]; rfl) (by rw [s3]; rfl) a) (x := .released) (y := .freed) rfl rfl
        refine .inr ⟨_, rfl, by decide, by rw [e]; exact .inr (by decide), fun who hw => ?_⟩
        have q := kq who hw
        rw [e] at q ⊢
        refine q.endedD ?_
        have z := al who hw
        unfold toldOf
        split
        · rename_i y; rw [if_pos y] at z; exact z
        · rename_i y; rw [if_neg y] at z; exact z
    · rw [if_neg s2]
      by_cases s3 : standOf st.1 d = .ret ∧ asksOf S st.1 hs d = []
      · rw [if_pos s3]
        have e := shop_ret sr (sl ▸ s3.1)
        have al := pick_tw wf hh (asks_none (a := (.restock, .refund)) (g := (.restocked, .refunded)) (by rw [s3.1]; rfl) (by rw [s3.1]; rfl) s3.2) (x := .back) (y := .refunded) rfl rfl
        refine .inr ⟨_, rfl, by decide, by rw [e]; exact .inr (by decide), fun who hw => ?_⟩
        have q := kq who hw
        rw [e] at q ⊢
        refine q.returned ?_
        have z := al who hw
        unfold toldOf
        split
        · rename_i y; rw [if_pos y] at z; exact z
        · rename_i y; rw [if_neg y] at z; exact z
      · rw [if_neg s3]; exact .inl rfl
end Sh
/-! M2: the invariant is kept; it has no faults; its bounds. -/
namespace Sh
/-! ### a keeper writes -/
theorem set_is {α : Type} (l : List α) (i : Nat) (x : α) (h : i < l.length) : l.take i ++ [x] ++ l.drop (i + 1) = l.set i x := by
  rw [List.set_eq_take_append_cons_drop, if_pos h, List.append_assoc]
  rfl
theorem logAt_set {S : Setup} {logs : List Log} {i : Nat} {x : Log} (h : i < logs.length) (who : W) : logAt S (logs.set i x) who = if i = (housesIn S).idxOf who then x else logAt S logs who := by
  unfold logAt
  rw [List.getElem?_set]
  by_cases e : i = (housesIn S).idxOf who
  · rw [if_pos e, if_pos e, if_pos (by omega)]; rfl
  · rw [if_neg e, if_neg e]
theorem idx_inj {S : Setup} {a b : W} (ha : a ∈ housesIn S) (h : (housesIn S).idxOf a = (housesIn S).idxOf b) : a = b := by
  have la := List.idxOf_lt_length_iff.mpr ha
  have lb : (housesIn S).idxOf b < (housesIn S).length := by omega
  have ea := List.getElem_idxOf la
  have eb := List.getElem_idxOf lb
  rw [← ea, ← eb]
  congr 1
theorem logAt_mem {S : Setup} {logs : List Log} (hl : logs.length = (housesIn S).length) {h : W} (m : h ∈ housesIn S) : logAt S logs h ∈ logs := by
  have il : (housesIn S).idxOf h < logs.length := by rw [hl]; exact List.idxOf_lt_length_iff.mpr m
  unfold logAt
  rw [List.getElem?_eq_getElem il]
  exact List.getElem_mem il
theorem grow_mem {log : Log} {ws : List W} {d : W} {g : Log} (h : g = log ∨ ∃ v ∈ ws, g = log ++ [(v, d)]) : ∀ p ∈ log, p ∈ g := fun p hp => by
  rcases h with z | ⟨v, _, z⟩
  · rw [z]; exact hp
  · rw [z]; exact List.mem_append_left _ hp
theorem grow_len {log : Log} {ws : List W} {d : W} {g : Log} {t : Nat} (h : g = log ∨ ∃ v ∈ ws, g = log ++ [(v, d)]) (l : log.length ≤ t) : g.length ≤ t + 1 := by
  rcases h with z | ⟨v, _, z⟩
  · rw [z]; omega
  · rw [z, List.length_append, List.length_singleton]; omega
theorem grow_log {log : Log} {ws ns : List W} {d : W} {g : Log} (h : g = log ∨ ∃ v ∈ ws, g = log ++ [(v, d)]) (hd : d ∈ ns) (l : isLog log ws ns = true) : isLog g ws ns = true := by
  rcases h with z | ⟨v, hv, z⟩
  · rw [z]; exact l
  · rw [z]; exact isLog_snoc l hv hd
theorem grow_row {log : Log} {ws : List W} {d e : W} {g : Log} (h : g = log ∨ ∃ v ∈ ws, g = log ++ [(v, d)]) (n : e ≠ d) : rowOf g e = rowOf log e := by
  rcases h with z | ⟨v, _, z⟩
  · rw [z]
  · rw [z, row_snoc_ne _ n]
/-- what a keeper answers, as a letter -/
theorem ans_fine {S : Setup} {log : Log} {K : W → Log} {a : Option W} {d who : W} (hd : d ∈ S.2.1.map (·.1)) (hw : who ∈ partnersOf S d) (h : ∀ v, a = some v → TrueW (K who) d v) : ∀ l ∈ ansL a d who, LetFine S log K l := fun l hl => by
  cases a with
  | none => cases hl
  | some v =>
    rw [List.mem_singleton.mp hl]
    exact ⟨hd, .inl ⟨rfl, hw, h v rfl⟩⟩
/-- letters after a keeper's answer -/
theorem lets_len {ls more ys : List Let} {t : Nat} (r : LetRel ls more ys) (hm : more.length ≤ 1) : (ys.filter fun l => decide (l.1 = W.shop)).length ≤ (ls.filter fun l => decide (l.1 = W.shop)).length + 1 := by
  have a : (ys.filter fun l => decide (l.1 = W.shop)).length ≤ ((ls ++ more).filter fun l => decide (l.1 = W.shop)).length :=
    nodup_sub (List.Sublist.nodup List.filter_sublist r.1) fun x hx => by
      obtain ⟨y1, y2⟩ := List.mem_filter.mp hx
      exact List.mem_filter.mpr ⟨(r.2 x).mp y1, y2⟩
  rw [List.filter_append, List.length_append] at a
  have b := List.length_filter_le (fun l : Let => decide (l.1 = W.shop)) more
  omega
theorem rest_sub {keep : Bool} {ls : List Let} {l : Let} : List.Sublist (restOf keep ls l) ls := by
  unfold restOf
  split
  · exact List.Sublist.refl _
  · exact List.filter_sublist
theorem Inv.house {S : Setup} (sv : SV S) {t : Nat} {st : State} (h : Inv S t st) {hh w d : W} (hd : d ∈ S.2.1.map (·.1)) (hm : hh ∈ housesOf S d) (n1 : w = .send → W.go ∈ rowOf st.1 d) (n2 : w = .release → W.drop ∈ rowOf st.1 d) (n3 : w = .restock → W.ret ∈ rowOf st.1 d) {ls ys : List Let} (hs : List.Sublist ls st.2.2.2.2) (r : LetRel ls (ansL (houseStep S (logAt S st.2.2.1 hh) hh w d).2 d hh) ys) :
    Inv S (t + 1) (st.1, st.2.1, st.2.2.1.take ((housesIn S).idxOf hh) ++ [(houseStep S (logAt S st.2.2.1 hh) hh w d).1] ++ st.2.2.1.drop ((housesIn S).idxOf hh + 1), st.2.2.2.1, ys) := by
  have wf := sv.toSW
  have hin := (housesOf_sub hm).1
  have hp : hh ∈ partnersOf S d := List.mem_append_left _ hm
  obtain ⟨i1, i2, i3, i4⟩ := isSt_parts h.isS
  have il : (housesIn S).idxOf hh < st.2.2.1.length := by rw [i2]; exact List.idxOf_lt_length_iff.mpr hin
  have q := h.keep d hd hh hp
  rw [told_house wf hin, keep_house wf hin] at q
  have ks := house_keep (S := S) (h := hh) q n1 n2 n3
  have fr : ∀ s ∈ S.1, s.2.1 = hh → usedAt S (houseStep S (logAt S st.2.2.1 hh) hh w d).1 hh S.2.1 s.1 ≤ s.2.2 := fun s hs e => house_free sv hd hs e (by have := h.free s hs; rw [e] at this; exact this)
  have lm := logAt_mem i2 hin
  rw [set_is _ _ _ il]
  generalize houseStep S (logAt S st.2.2.1 hh) hh w d = rr at ks fr r ⊢
  have la : ∀ who, logAt S (st.2.2.1.set ((housesIn S).idxOf hh) rr.1) who = if (housesIn S).idxOf hh = (housesIn S).idxOf who then rr.1 else logAt S st.2.2.1 who := logAt_set il
  have gm : ∀ who, ∀ p ∈ logAt S st.2.2.1 who, p ∈ logAt S (st.2.2.1.set ((housesIn S).idxOf hh) rr.1) who := fun who p m => by
    rw [la]
    split
    · rename_i e
      rw [← idx_inj hin e] at m
      exact grow_mem ks.g p m
    · exact m
  have km : ∀ who, ∀ p ∈ keepLog S st.2.2.1 st.2.2.2.1 who, p ∈ keepLog S (st.2.2.1.set ((housesIn S).idxOf hh) rr.1) st.2.2.2.1 who := fun who p m => by
    unfold keepLog at m ⊢
    by_cases b : who = .bank
    · rw [if_pos b] at m ⊢; exact m
    · rw [if_neg b] at m ⊢; exact gm who p m
  have self : logAt S (st.2.2.1.set ((housesIn S).idxOf hh) rr.1) hh = rr.1 := by rw [la]; exact if_pos rfl
  have other : ∀ who, who ≠ hh → logAt S (st.2.2.1.set ((housesIn S).idxOf hh) rr.1) who = logAt S st.2.2.1 who := fun who n => by
    rw [la]; exact if_neg fun z => n (idx_inj hin z).symm
  have sm : ∀ g ∈ st.2.2.1.set ((housesIn S).idxOf hh) rr.1, g ∈ st.2.2.1 ∨ g = rr.1 := fun g hg => List.mem_or_eq_of_mem_set hg
  exact
    { isS := isSt_mk i1 (by show (st.2.2.1.set _ _).length = _; rw [List.length_set]; exact i2) i3 fun g hg => by
        rcases sm g hg with z | z
        · exact i4 g z
        · rw [z]; exact grow_log ks.g hd (i4 _ lm)
      shop := h.shop
      keep := fun e he who hw => by
        show QR _ _ (rowOf (keepLog S (st.2.2.1.set _ rr.1) st.2.2.2.1 who) e)
        have q1 := h.keep e he who hw
        by_cases z : who = hh
        · rw [z, keep_house wf hin, told_house wf hin] at q1 ⊢
          rw [self]
          by_cases y : e = d
          · rw [y]; exact ks.q
          · rw [grow_row ks.g y]; exact q1
        · have : keepLog S (st.2.2.1.set ((housesIn S).idxOf hh) rr.1) st.2.2.2.1 who = keepLog S st.2.2.1 st.2.2.2.1 who := by
            unfold keepLog; rw [other who z]
          rw [this]; exact q1
      off := fun e he g hg n => by
        show rowOf (logAt S (st.2.2.1.set _ rr.1) g) e = []
        have o := h.off e he g hg n
        by_cases z : g = hh
        · rw [z, self]
          by_cases y : e = d
          · rw [z, y] at n; exact absurd hm n
          · rw [grow_row ks.g y, ← z]; exact o
        · rw [other g z]; exact o
      hrd := fun x hx => (h.hrd x hx).mono km
      lets := fun l hl => by
        rcases List.mem_append.mp ((r.2 l).mp hl) with z | z
        · exact (h.lets l (hs.subset z)).mono (fun _ m => m) km
        · exact ans_fine hd hp (fun v e => by rw [keep_house wf hin]; show TrueW (logAt S (st.2.2.1.set _ rr.1) hh) d v; rw [self]; exact ks.a v e) l z
      free := fun s hs' => by
        show usedAt S (logAt S (st.2.2.1.set _ rr.1) s.2.1) s.2.1 S.2.1 s.1 ≤ s.2.2
        by_cases z : s.2.1 = hh
        · rw [z, self]; exact fr s hs' z
        · rw [other _ z]; exact h.free s hs'
      coin := h.coin
      nd := r.1
      n1 := by
        have a := h.n1
        have b := lets_len (t := t) r (ansL_len _ _ _)
        have c : (ls.filter fun l => decide (l.1 = W.shop)).length ≤ (st.2.2.2.2.filter fun l => decide (l.1 = W.shop)).length := (hs.filter _).length_le
        show (ys.filter fun l => decide (l.1 = W.shop)).length + st.1.length ≤ t + 1
        omega
      n2 := Nat.le_succ_of_le h.n2
      n3 := fun g hg => by
        rcases sm g hg with z | z
        · exact Nat.le_succ_of_le (h.n3 g z)
        · rw [z]; exact grow_len ks.g (h.n3 _ lm)
      n4 := Nat.le_succ_of_le h.n4 }
theorem Inv.bank {S : Setup} (sv : SV S) {t : Nat} {st : State} (h : Inv S t st) {w d : W} (hd : d ∈ S.2.1.map (·.1)) (n1 : w = .take → W.go ∈ rowOf st.1 d) (n2 : w = .free → W.drop ∈ rowOf st.1 d) (n3 : w = .refund → W.ret ∈ rowOf st.1 d) {ls ys : List Let} (hs : List.Sublist ls st.2.2.2.2) (r : LetRel ls (ansL (bankStep S st.2.2.2.1 w d).2 d .bank) ys) :
    Inv S (t + 1) (st.1, st.2.1, st.2.2.1, (bankStep S st.2.2.2.1 w d).1, ys) := by
  have wf := sv.toSW
  have hp : W.bank ∈ partnersOf S d := List.mem_append_right _ (.head _)
  obtain ⟨i1, i2, i3, i4⟩ := isSt_parts h.isS
  have q := h.keep d hd .bank hp
  have ks : KStep bankT (rowOf st.1 d) bankWs d st.2.2.2.1 (bankStep S st.2.2.2.1 w d) := bank_keep (S := S) (show QR bankT _ (rowOf st.2.2.2.1 d) from q) n1 n2 n3
  have fr : ∀ b ∈ S.2.2, usedB (bankStep S st.2.2.2.1 w d).1 S.2.1 b.1 ≤ b.2 := fun b hb => bank_free sv hd hb (h.coin b hb)
  generalize bankStep S st.2.2.2.1 w d = rr at ks fr r ⊢
  have km : ∀ who, ∀ p ∈ keepLog S st.2.2.1 st.2.2.2.1 who, p ∈ keepLog S st.2.2.1 rr.1 who := fun who p m => by
    unfold keepLog at m ⊢
    by_cases b : who = .bank
    · rw [if_pos b] at m ⊢; exact grow_mem ks.g p m
    · rw [if_neg b] at m ⊢; exact m
  exact
    { isS := isSt_mk i1 i2 (grow_log ks.g hd i3) i4
      shop := h.shop
      keep := fun e he who hw => by
        show QR _ _ (rowOf (keepLog S st.2.2.1 rr.1 who) e)
        have q1 := h.keep e he who hw
        by_cases z : who = .bank
        · subst z
          by_cases y : e = d
          · rw [y]; exact ks.q
          · have : rowOf (keepLog S st.2.2.1 rr.1 .bank) e = rowOf (keepLog S st.2.2.1 st.2.2.2.1 .bank) e := grow_row ks.g y
            rw [this]; exact q1
        · have : keepLog S st.2.2.1 rr.1 who = keepLog S st.2.2.1 st.2.2.2.1 who := by
            unfold keepLog; rw [if_neg z, if_neg z]
          rw [this]; exact q1
      off := h.off
      hrd := fun x hx => (h.hrd x hx).mono km
      lets := fun l hl => by
        rcases List.mem_append.mp ((r.2 l).mp hl) with z | z
        · exact (h.lets l (hs.subset z)).mono (fun _ m => m) km
        · exact ans_fine hd hp (fun v e => ks.a v e) l z
      free := h.free
      coin := fr
      nd := r.1
      n1 := by
        have a := h.n1
        have b := lets_len (t := t) r (ansL_len _ _ _)
        have c : (ls.filter fun l => decide (l.1 = W.shop)).length ≤ (st.2.2.2.2.filter fun l => decide (l.1 = W.shop)).length := (hs.filter _).length_le
        show (ys.filter fun l => decide (l.1 = W.shop)).length + st.1.length ≤ t + 1
        omega
      n2 := Nat.le_succ_of_le h.n2
      n3 := fun g hg => Nat.le_succ_of_le (h.n3 g hg)
      n4 := grow_len ks.g h.n4 }
/-! ### every event -/
theorem ask_words {z w who : W} {a : W × W} (h : askW z = some a) (e : w = pick a who) : (who ≠ .bank → (w = .send → z = .go) ∧ (w = .release → z = .drop) ∧ (w = .restock → z = .ret)) ∧ (who = .bank → (w = .take → z = .go) ∧ (w = .free → z = .drop) ∧ (w = .refund → z = .ret)) := by
  subst e
  have c : (z, a) ∈ [(W.begun, (W.reserve, W.hold)), (.go, (.send, .take)), (.drop, (.release, .free)), (.ret, (.restock, .refund))] := by
    cases z <;> first | (cases h; decide) | cases h
  simp only [List.mem_cons, List.not_mem_nil, or_false, Prod.mk.injEq] at c
  constructor
  · intro n
    have e : pick a who = a.1 := if_neg n
    rw [e]
    rcases c with ⟨c1, c2⟩ | ⟨c1, c2⟩ | ⟨c1, c2⟩ | ⟨c1, c2⟩ <;> subst c1 <;> subst c2 <;> refine ⟨fun y => ?_, fun y => ?_, fun y => ?_⟩ <;> first | rfl | cases y
  · intro n
    have e : pick a who = a.2 := if_pos n
    rw [e]
    rcases c with ⟨c1, c2⟩ | ⟨c1, c2⟩ | ⟨c1, c2⟩ | ⟨c1, c2⟩ <;> subst c1 <;> subst c2 <;> refine ⟨fun y => ?_, fun y => ?_, fun y => ?_⟩ <;> first | rfl | cases y
theorem inv_del {S : Setup} (sv : SV S) {t : Nat} {st st' : State} (h : Inv S t st) {l : Let} (hl : l ∈ st.2.2.2.2) {keep : Bool} (r : DelRel S st l keep st') : Inv S (t + 1) st' := by
  have wf := sv.toSW
  obtain ⟨hd, lf⟩ := h.lets l hl
  unfold DelRel at r
  by_cases e1 : l.1 = .shop
  · rw [if_pos e1] at r
    obtain ⟨rr, sr, e⟩ := r
    rw [e]
    rcases lf with ⟨_, hp, tr⟩ | ⟨hp, _⟩
    · have sub : ∀ x ∈ restOf keep st.2.2.2.2 l, x ∈ st.2.2.2.2 := fun x hx => rest_sub.subset hx
      have nd := List.Sublist.nodup (rest_sub (keep := keep) (l := l)) h.nd
      unfold ShopRel at sr
      by_cases s0 : standOf st.1 l.2.2.1 = .em
      · rw [if_pos s0] at sr
        rw [sr]
        exact h.still h.hrd (Nat.le_succ_of_le h.n2) (fun x hx => .inl (sub x hx)) nd
      · rw [if_neg s0] at sr
        obtain ⟨hs, n, m, e⟩ := sr
        have hh : ∀ x ∈ hs, HrdFine S (keepLog S st.2.2.1 st.2.2.2.1) x := fun x hx => by
          rcases List.mem_append.mp ((m x).mp hx) with z | z
          · exact h.hrd x z
          · rw [List.mem_singleton.mp z]; exact ⟨hd, hp, tr⟩
        have hl2 : hs.length ≤ t + 1 := by
          have a := nodup_sub n fun x hx => (m x).mp hx
          have b := h.n2
          rw [List.length_append, List.length_singleton] at a
          omega
        rw [e]
        rcases inv_next sv h hd hh with z | ⟨w, z, sw⟩
        · rw [z]
          exact h.still hh hl2 (fun x hx => .inl (sub x hx)) nd
        · rw [z]
          exact h.write hd sw hh hl2 sub nd
    · exact absurd e1 (partner_ne wf hp)
  · rw [if_neg e1] at r
    rcases lf with ⟨z, _⟩ | ⟨hp, _, z, a, h1, h2, h3⟩
    · exact absurd z e1
    · have aw := ask_words h1 h3
      have zr : z ∈ rowOf st.1 l.2.2.1 := row_mem.mpr h2
      by_cases e2 : l.1 = .bank
      · rw [if_pos e2] at r
        obtain ⟨ys, lr, e⟩ := r
        rw [e2] at lr
        rw [e]
        obtain ⟨a1, a2, a3⟩ := aw.2 e2
        exact h.bank sv hd (fun y => a1 y ▸ zr) (fun y => a2 y ▸ zr) (fun y => a3 y ▸ zr) rest_sub lr
      · rw [if_neg e2] at r
        obtain ⟨ys, lr, e⟩ := r
        rw [e]
        obtain ⟨a1, a2, a3⟩ := aw.1 e2
        have hm : l.1 ∈ housesOf S l.2.2.1 := by
          rcases partner hp with y | y
          · exact absurd y e2
          · exact y
        exact h.house sv hd hm (fun y => a1 y ▸ zr) (fun y => a2 y ▸ zr) (fun y => a3 y ▸ zr) rest_sub lr
theorem inv_beg {S : Setup} {t : Nat} {st : State} (h : Inv S t st) {w k d : W} (ok : MayBegin S st k d) (e : w = begW k) : Inv S (t + 1) (beganS st w d) := by
  obtain ⟨hd, c⟩ := ok
  have sl := stand_last st.1 d
  have sr := h.shop d hd
  refine h.write hd ?_ h.hrd (Nat.le_succ_of_le h.n2) (fun _ m => m) h.nd
  rcases c with ⟨z, s⟩ | ⟨z, s⟩ | ⟨z, s, g⟩
  · have r := shop_em sr (sl ▸ s)
    rw [z] at e
    rw [e]
    refine ⟨by decide, by rw [r]; exact .inr (by decide), fun who hw => ?_⟩
    have q := h.keep d hd who hw
    rw [r] at q ⊢
    exact q.begun
  · have r := shop_begun sr (sl ▸ s)
    rw [z] at e
    rw [e]
    refine ⟨by decide, by rw [r]; exact .inr (by decide), fun who hw => ?_⟩
    have q := h.keep d hd who hw
    rw [r] at q ⊢
    exact q.drop
  · have r := shop_ended sr (sl ▸ s) (row_mem.mpr g)
    rw [z] at e
    rw [e]
    refine ⟨by decide, by rw [r]; exact .inr (by decide), fun who hw => ?_⟩
    have q := h.keep d hd who hw
    rw [r] at q ⊢
    exact q.ret
theorem letsOf_fine {S : Setup} (wf : SW S) {log : Log} {heard : List Hrd} {K : W → Log} : ∀ l ∈ letsOf S log heard S.2.1, l.1 ≠ .shop ∧ LetFine S log K l := fun l hl => by
  unfold letsOf at hl
  obtain ⟨d, hd, h1⟩ := List.mem_flatMap.mp hl
  unfold letsAt at h1
  obtain ⟨x, hx, e⟩ := List.mem_map.mp h1
  have dn : d.1 ∈ S.2.1.map (·.1) := List.mem_map.mpr ⟨d, hd, rfl⟩
  cases ea : askW (standOf log d.1) with
  | none => rw [asksOf_none ea] at hx; cases hx
  | some a =>
    obtain ⟨g, eg⟩ := goodW_some ea
    rw [asksOf_some ea eg] at hx
    unfold asksF at hx
    obtain ⟨who, hw, e2⟩ := List.mem_map.mp hx
    have hp := (List.mem_filter.mp hw).1
    rw [← e2] at e
    rw [← e]
    refine ⟨partner_ne wf hp, dn, .inr ⟨hp, rfl, _, a, ea, ?_, rfl⟩⟩
    refine row_mem.mp (last_mem (stand_last log d.1).symm fun z => ?_)
    rw [z] at ea
    cases ea
theorem inv_step {S : Setup} (sv : SV S) {t : Nat} {st st' : State} {ev : Ev} (h : Inv S t st) (ok : EvOk S st ev) (sr : StepRel S st ev st') : Inv S (t + 1) st' := by
  have wf := sv.toSW
  cases ev with
  | tick =>
    obtain ⟨ls, r, e⟩ := (sr : TickRel S st st')
    rw [e]
    refine h.still h.hrd (Nat.le_succ_of_le h.n2) (fun l hl => ?_) r.1
    rcases List.mem_append.mp ((r.2 l).mp hl) with z | z
    · exact .inl z
    · exact .inr (letsOf_fine wf l z)
  | fall w =>
    have e : st' = (st.1, if w = .shop then [] else st.2.1, st.2.2.1, st.2.2.2.1, st.2.2.2.2.filter fun l => !decide (l.1 = w)) := sr
    rw [e]
    refine h.still (fun x hx => ?_) ?_ (fun l hl => .inl (List.mem_filter.mp hl).1) (List.Sublist.nodup List.filter_sublist h.nd)
    · split at hx
      · cases hx
      · exact h.hrd x hx
    · have a := h.n2
      split
      · exact Nat.zero_le _
      · omega
  | beg d =>
    have e : st' = beganS st .begun d := sr
    rw [e]
    exact inv_beg h (k := .beg) ok rfl
  | give d =>
    have e : st' = beganS st .drop d := sr
    rw [e]
    exact inv_beg h (k := .giveup) ok rfl
  | ret d =>
    have e : st' = beganS st .ret d := sr
    rw [e]
    exact inv_beg h (k := .ret) ok rfl
  | come l => exact inv_del sv h (ok : _ ∧ _).1 (sr : DelRel S st l false st')
  | double l => exact inv_del sv h (ok : _ ∧ _).1 (sr : DelRel S st l true st')
  | lose l =>
    have e : st' = (st.1, st.2.1, st.2.2.1, st.2.2.2.1, st.2.2.2.2.filter fun x => !decide (x = l)) := sr
    rw [e]
    exact h.still h.hrd (Nat.le_succ_of_le h.n2) (fun l hl => .inl (List.mem_filter.mp hl).1) (List.Sublist.nodup List.filter_sublist h.nd)
end Sh
/-! M2: no faults; the bounds; what is drawn is a setup. -/
namespace Sh
theorem faults_iff {S : Setup} (sv : SV S) {log : Log} {heard : List Hrd} {logs : List Log} {bank : Log} {letters : List Let} (hl : logs.length = (housesIn S).length) :
    faultsIn S (log, heard, logs, bank, letters) = [] ↔ ((∀ s ∈ S.1, usedAt S (logAt S logs s.2.1) s.2.1 S.2.1 s.1 ≤ s.2.2) ∧ ∀ b ∈ S.2.2, usedB bank S.2.1 b.1 ≤ b.2) ∧ ∀ d ∈ S.2.1, DealP (rowOf log d.1) (rowOf bank d.1) (housesIn S) (housesOf S d.1) (rowAt (rowsF S logs d.1)) := by
  unfold faultsIn faultsD faultsC faultsT
  rw [fold_nil, fold_nil, fold_nil]
  simp only [iff1_nil, bad_thing sv, bad_coin sv, decide_eq_false_iff_not, true_and]
  refine and_congr (and_congr (forall_congr' fun s => forall_congr' fun _ => ?_) (forall_congr' fun b => forall_congr' fun _ => ?_)) (forall_congr' fun d => forall_congr' fun _ => faults_dealP hl d.1)
  · omega
  · omega
theorem inv_faults {S : Setup} (sv : SV S) {t : Nat} {st : State} (h : Inv S t st) : faultsIn S st = [] := by
  have wf := sv.toSW
  obtain ⟨i1, i2, i3, i4⟩ := isSt_parts h.isS
  refine (faults_iff sv i2).mpr ⟨⟨h.free, h.coin⟩, fun d hd => ?_⟩
  have dn : d.1 ∈ S.2.1.map (·.1) := List.mem_map.mpr ⟨d, hd, rfl⟩
  have ra : ∀ x ∈ housesIn S, rowAt (rowsF S st.2.2.1 d.1) x = rowOf (logAt S st.2.2.1 x) d.1 := fun x hx => rowAt_eq i2 hx
  have qh : ∀ x ∈ housesOf S d.1, QR houseT (rowOf st.1 d.1) (rowAt (rowsF S st.2.2.1 d.1) x) := fun x hx => by
    have m := (housesOf_sub hx).1
    have q := h.keep d.1 dn x (List.mem_append_left _ hx)
    rw [told_house wf m, keep_house wf m] at q
    rw [ra x m]; exact q
  have qb : QR bankT (rowOf st.1 d.1) (rowOf st.2.2.2.1 d.1) := h.keep d.1 dn .bank (List.mem_append_right _ (.head _))
  have oh : ∀ x ∈ housesIn S, x ∉ housesOf S d.1 → rowAt (rowsF S st.2.2.1 d.1) x = [] := fun x m n => by
    rw [ra x m]; exact h.off d.1 dn x m n
  exact
    { s := h.shop d.1 dn
      h1 := fun x m => by
        by_cases z : x ∈ housesOf S d.1
        · exact ⟨(qh x z).r0, .inr z⟩
        · rw [oh x m z]; exact ⟨by decide, .inl rfl⟩
      h2 := fun x m => by
        by_cases z : x ∈ housesOf S d.1
        · exact ⟨(qh x z).n1, (qh x z).n2, (qh x z).n3⟩
        · rw [oh x m z]; exact ⟨fun y => (by cases y), fun y => (by cases y), fun y => (by cases y)⟩
      b1 := qb.r0
      b2 := ⟨qb.n1, qb.n2, qb.n3⟩
      e1 := fun g => ⟨qb.p1 g, fun x m => (qh x m).p1 g⟩
      e2 := fun e g => ⟨qb.p2 e g, fun x m => (qh x m).p2 e g⟩
      e3 := fun e g => ⟨qb.p3 e g, fun x m => (qh x m).p3 e g⟩
      e4 := fun g => ⟨qb.p4 g, fun x m => (qh x m).p4 g⟩ }
/-! ### how many letters -/
theorem hof_nodup (S : Setup) (d : W) : ∀ (xs : List Sup) (acc : List W), acc.Nodup → (hof S d xs acc).Nodup
  | [], acc, h => h
  | p :: r, acc, h => by
    refine hof_nodup S d r (if p.2.1 ∉ acc ∧ partsAt S d p.2.1 ≠ [] then acc ++ [p.2.1] else acc) ?_
    split
    · rename_i n
      exact List.nodup_append.mpr ⟨h, List.nodup_cons.mpr ⟨fun z => (by cases z), .nil⟩, fun a ha b hb e => n.1 (by rw [List.mem_singleton.mp hb] at e; rw [← e]; exact ha)⟩
    · exact h
theorem partners_le {S : Setup} (wf : SW S) (d : W) : (partnersOf S d).length ≤ 3 := by
  have a := nodup_sub (l := housesOf S d) (m := housesIn S) (hof_nodup S d S.1 [] .nil) fun x hx => (housesOf_sub hx).1
  have b := wf.hh
  unfold partnersOf
  rw [List.length_append, List.length_singleton]
  omega
/-- all asks that the shop's log may have sent -/
def asksAt (S : Setup) (p : W × W) : List Let := match askW p.1 with
  | some a => (partnersOf S p.2).map fun who => (who, pick a who, p.2, W.shop)
  | none => []
def cost (w : W) : Int := if (askW w).isSome = true then 3 else 0
theorem asksAt_len {S : Setup} (wf : SW S) (p : W × W) : ((asksAt S p).length : Int) ≤ cost p.1 := by
  unfold asksAt cost
  cases askW p.1 with
  | none => exact Int.le_refl _
  | some a =>
    have := partners_le wf p.2
    show ((List.map _ _).length : Int) ≤ 3
    rw [List.length_map]
    omega
theorem asks_sum {S : Setup} (wf : SW S) : ∀ log : Log, ((log.flatMap (asksAt S)).length : Int) ≤ (log.map fun p => cost p.1).sum
  | [] => Int.le_refl _
  | p :: r => by
    rw [List.flatMap_cons, List.length_append, List.map_cons, List.sum_cons]
    have a := asks_sum wf r
    have b := asksAt_len wf p
    omega
theorem sum_split (c : W → Int) (n : W) : ∀ log : Log, (log.map fun p => c p.1).sum = ((rowOf log n).map c).sum + ((log.filter fun p => !decide (p.2 = n)).map fun p => c p.1).sum
  | [] => rfl
  | p :: r => by
    have ih := sum_split c n r
    rw [List.map_cons, List.sum_cons, ih]
    unfold rowOf
    by_cases e : p.2 = n
    · rw [List.filter_cons_of_pos (by exact decide_eq_true e), List.map_cons, List.map_cons, List.sum_cons, List.filter_cons_of_neg (by simpa using e)]
      omega
    · rw [List.filter_cons_of_neg (by simpa using e), List.filter_cons_of_pos (by simpa using e), List.map_cons, List.sum_cons]
      omega
theorem row_filter {n m : W} (e : m ≠ n) : ∀ log : Log, rowOf (log.filter fun p => !decide (p.2 = n)) m = rowOf log m := fun log => by
  unfold rowOf
  rw [List.filter_filter]
  congr 1
  refine List.filter_congr fun p _ => ?_
  by_cases z : p.2 = m
  · have : ¬ p.2 = n := fun y => e (z.symm.trans y)
    simp [z, e]
  · simp [z]
theorem sum_rows (c : W → Int) (k : Int) (hk : 0 ≤ k) : ∀ (ns : List W) (log : Log), ns.Nodup → (∀ p ∈ log, p.2 ∈ ns) → (∀ n ∈ ns, ((rowOf log n).map c).sum ≤ k) → (log.map fun p => c p.1).sum ≤ k * ns.length
  | [], log, _, h, _ => by
    cases log with
    | nil => show (0 : Int) ≤ k * 0; omega
    | cons p r => exact absurd (h p (.head _)) (by simp)
  | n :: ns, log, nd, h, hr => by
    rw [List.nodup_cons] at nd
    rw [sum_split c n log]
    have a := hr n (.head _)
    have b := sum_rows c k hk ns (log.filter fun p => !decide (p.2 = n)) nd.2 (fun p hp => by
      obtain ⟨y1, y2⟩ := List.mem_filter.mp hp
      have y3 : ¬ p.2 = n := by simpa using y2
      rcases List.mem_cons.mp (h p y1) with z | z
      · exact absurd z y3
      · exact z) (fun m hm => by
      rw [row_filter (fun z => nd.1 (by rw [← z]; exact hm))]
      exact hr m (.tail _ hm))
    rw [List.length_cons, Int.natCast_succ, Int.mul_add]
    omega
theorem shop_cost {R : List W} (h : ShopR R) : (R.map fun w => cost w - 1).sum ≤ 5 := by
  rcases h with h | h
  · rw [h]; decide
  · simp only [rows0, List.mem_cons, List.not_mem_nil, or_false] at h
    rcases h with h | h | h | h | h | h | h <;> rw [h] <;> decide
theorem sum_sub (c : W → Int) : ∀ log : Log, (log.map fun p => c p.1 - 1).sum = (log.map fun p => c p.1).sum - log.length
  | [] => rfl
  | p :: r => by
    rw [List.map_cons, List.map_cons, List.sum_cons, List.sum_cons, sum_sub c r, List.length_cons]
    omega
theorem inv_letters {S : Setup} (sv : SV S) {t : Nat} {st : State} (h : Inv S t st) : st.2.2.2.2.length ≤ t + 15 := by
  have wf := sv.toSW
  obtain ⟨i1, i2, i3, i4⟩ := isSt_parts h.isS
  have a : (st.2.2.2.2.filter fun l => !decide (l.1 = W.shop)).length ≤ (st.1.flatMap (asksAt S)).length :=
    nodup_sub (List.Sublist.nodup List.filter_sublist h.nd) fun l hl => by
      obtain ⟨y1, y2⟩ := List.mem_filter.mp hl
      have y3 : ¬ l.1 = .shop := by simpa using y2
      obtain ⟨hd, lf⟩ := h.lets l y1
      rcases lf with ⟨z, _⟩ | ⟨hp, e, z, a, h1, h2, h3⟩
      · exact absurd z y3
      · refine List.mem_flatMap.mpr ⟨(z, l.2.2.1), h2, ?_⟩
        unfold asksAt
        dsimp only
        rw [h1]
        refine List.mem_map.mpr ⟨l.1, hp, ?_⟩
        rw [← h3, ← e]
  have b := asks_sum wf st.1
  have dn : ∀ p ∈ st.1, p.2 ∈ S.2.1.map (·.1) := fun p hp => by
    unfold isLog at i1
    rw [List.all_eq_true] at i1
    have z := i1 p hp
    rw [Bool.and_eq_true, decide_eq_true_eq, decide_eq_true_eq] at z
    exact z.2
  have c := sum_rows (fun w => cost w - 1) 5 (by omega) (S.2.1.map (·.1)) st.1 wf.dn dn fun n hn => shop_cost (h.shop n hn)
  rw [sum_sub, List.length_map] at c
  have d := wf.l2
  have e := h.n1
  have f : st.2.2.2.2.length = (st.2.2.2.2.filter fun l => decide (l.1 = W.shop)).length + (st.2.2.2.2.filter fun l => !decide (l.1 = W.shop)).length := by
    generalize st.2.2.2.2 = ls
    induction ls with
    | nil => rfl
    | cons x r ih =>
      by_cases z : x.1 = .shop
      · rw [List.filter_cons_of_pos (by exact decide_eq_true z), List.filter_cons_of_neg (by simpa using z), List.length_cons, List.length_cons, ih]; omega
      · rw [List.filter_cons_of_neg (by simpa using z), List.filter_cons_of_pos (by simpa using z), List.length_cons, List.length_cons, ih]; omega
  omega
theorem inv_small {S : Setup} (sv : SV S) {t : Nat} {st : State} (h : Inv S t st) (ht : t ≤ 39) : st.1.length ≤ 39 ∧ (∀ g ∈ st.2.2.1, g.length ≤ 39) ∧ st.2.2.2.1.length ≤ 39 := by
  have a := h.n1
  have b := h.n4
  exact ⟨by omega, fun g hg => Nat.le_trans (h.n3 g hg) ht, by omega⟩
theorem inv_bd {S : Setup} (sv : SV S) {t : Nat} {st : State} (h : Inv S t st) (ht : t ≤ 39) : Bd S st where
  b1 := by have := (inv_small sv h ht).1; omega
  b2 := by have := h.n2; omega
  b3 := (isSt_parts h.isS).2.1
  b4 := fun g hg => by have := h.n3 g hg; omega
  b5 := by have := h.n4; omega
  b6 := by have := inv_letters sv h; omega
theorem asksOf_le {S : Setup} (wf : SW S) (log : Log) (heard : List Hrd) (d : W) : (asksOf S log heard d).length ≤ 3 := by
  unfold asksOf
  split
  · exact Nat.le_trans (asksF_len _ _ _ _ _) (partners_le wf d)
  · exact Nat.zero_le _
theorem letsOf_le {S : Setup} (wf : SW S) (log : Log) (heard : List Hrd) : ∀ ds : List Deal, (letsOf S log heard ds).length ≤ 3 * ds.length
  | [] => Nat.le_refl _
  | d :: ds => by
    have a := letsOf_le wf log heard ds
    have b := asksOf_le wf log heard d.1
    unfold letsOf at a ⊢
    rw [List.flatMap_cons, List.length_append, List.length_cons]
    unfold letsAt at a ⊢
    rw [List.length_map]
    omega
theorem inv_let {S : Setup} (sv : SV S) {t : Nat} {st : State} (h : Inv S t st) {l : Let} (hl : l ∈ st.2.2.2.2) : LetOk S l := by
  obtain ⟨hd, lf⟩ := h.lets l hl
  refine ⟨hd, ?_⟩
  rcases lf with ⟨z, _⟩ | ⟨hp, _⟩
  · exact .inl z
  · rcases partner hp with z | z
    · exact .inr (.inl z)
    · exact .inr (.inr (housesOf_sub z).1)
theorem inv_ok {S : Setup} (sv : SV S) {t : Nat} {st : State} (h : Inv S t st) (ht : t ≤ 38) : ∀ ev ∈ eventsOf S st, EvOk S st ev := by
  have wf := sv.toSW
  intro ev hev
  unfold eventsOf evs0 evs1 evs2 at hev
  rcases List.mem_append.mp hev with z | z
  · rcases List.mem_append.mp z with z | z
    · rcases List.mem_append.mp z with z | z
      · rw [List.mem_singleton.mp z]
        show st.2.2.2.2.length + (letsOf S st.1 st.2.1 S.2.1).length < 64
        have a := inv_letters sv h
        have b := letsOf_le wf st.1 st.2.1 S.2.1
        have c := wf.l2
        omega
      · obtain ⟨w, hw, e⟩ := List.mem_map.mp z
        rw [← e]; exact hw
    · obtain ⟨d, hd, e⟩ := List.mem_flatMap.mp z
      have dn : d.1 ∈ S.2.1.map (·.1) := List.mem_map.mpr ⟨d, hd, rfl⟩
      unfold dealEvs at e
      by_cases s1 : standOf st.1 d.1 = .em
      · rw [if_pos s1] at e
        rw [List.mem_singleton.mp e]
        exact ⟨dn, .inl ⟨rfl, s1⟩⟩
      · rw [if_neg s1] at e
        by_cases s2 : standOf st.1 d.1 = .begun
        · rw [if_pos s2] at e
          rw [List.mem_singleton.mp e]
          exact ⟨dn, .inr (.inl ⟨rfl, s2⟩)⟩
        · rw [if_neg s2] at e
          by_cases s3 : standOf st.1 d.1 = .ended ∧ (W.go, d.1) ∈ st.1
          · rw [if_pos s3] at e
            rw [List.mem_singleton.mp e]
            exact ⟨dn, .inr (.inr ⟨rfl, s3⟩)⟩
          · rw [if_neg s3] at e; cases e
  · obtain ⟨l, hl, e⟩ := List.mem_flatMap.mp z
    have lo := inv_let sv h hl
    rcases List.mem_cons.mp e with e | e
    · rw [e]; exact ⟨hl, lo⟩
    · rcases List.mem_cons.mp e with e | e
      · rw [e]; exact ⟨hl, lo⟩
      · rw [List.mem_singleton.mp e]; exact ⟨hl, lo⟩
/-! ### what is drawn -/
theorem range_nodup {f : Nat → W} {i : Nat} (h : i ≤ 3) (hf : ((List.range 3).map f).Nodup) : ((List.range i).map f).Nodup := by
  have : List.Sublist (List.range i) (List.range 3) := List.range_sublist.mpr h
  exact List.Sublist.nodup (this.map f) hf
theorem drawn_nm {xs : List W} {f : Nat → W} {i : Nat} (e : xs = (List.range i).map f) (h : i ≤ 3) (nm : ∀ j, j < 3 → isNm (f j) = true) : ∀ x ∈ xs, isNm x = true := fun x hx => by
  rw [e] at hx
  obtain ⟨j, hj, e2⟩ := List.mem_map.mp hx
  rw [← e2]
  exact nm j (by have := List.mem_range.mp hj; omega)
theorem nm_s : ∀ j, j < 3 → isNm (sW j) = true := by decide +kernel
theorem nm_b : ∀ j, j < 3 → isNm (bW j) = true := by decide +kernel
theorem nm_d : ∀ j, j < 3 → isNm (dW j) = true := by decide +kernel
theorem nm_h : isNm .east = true ∧ isNm .west = true := by decide +kernel
theorem drawn_sv {S : Setup} (h : Drawn S) : SV S := by
  obtain ⟨⟨i, hi1, hi, hs⟩, ⟨j, hj1, hj, hb⟩, ⟨k, hk, hd⟩⟩ := h
  have ls := hs.len
  have lb := hb.len
  have ld := hd.len
  have home : ∀ s ∈ S.1, s.2.1 = .east ∨ s.2.1 = .west := fun s m => by
    have z := (hs.2 s m).1
    simp only [List.mem_cons, List.not_mem_nil, or_false] at z
    exact z
  have names : ∀ d ∈ S.2.1, (d.2.2.1.map (·.1)).Nodup ∧ ∀ p ∈ d.2.2.1, p.1 ∈ S.1.map (·.1) := fun d m => by
    have z := (hd.2 d m).2.1
    unfold PartsOk at z
    rw [List.append_nil] at z
    exact ⟨z.1, fun p hp => z.2.1 _ (List.mem_map.mpr ⟨p, hp, rfl⟩)⟩
  exact
    { sn := by rw [hs.1]; exact range_nodup hi (by decide)
      dn := by rw [hd.1]; exact range_nodup hk (by decide)
      bn := by
        rw [hb.1]
        have : List.Sublist (List.range j) (List.range 2) := List.range_sublist.mpr hj
        exact List.Sublist.nodup (this.map bW) (by decide)
      pn := fun d m => (names d m).1
      pm := fun d m => (names d m).2
      db := fun d m => (hd.2 d m).1
      hb := fun s m => by
        rcases home s m with z | z <;> rw [z] <;> exact ⟨by decide, by decide⟩
      l1 := by omega
      l2 := by omega
      l3 := by omega
      l4 := fun d m => (hd.2 d m).2.2.2.1
      hh := nodup_sub (m := [W.east, .west]) (houses_nodup S) fun x hx => by
        rcases hin_sub S.1 [] x hx with z | ⟨s, hs2, e⟩
        · cases z
        · rw [← e]; exact (hs.2 s hs2).1
      n1 := fun s m => by
        refine ⟨drawn_nm hs.1 hi nm_s _ (List.mem_map.mpr ⟨s, m, rfl⟩), ?_⟩
        rcases home s m with z | z <;> rw [z]
        · exact nm_h.1
        · exact nm_h.2
      n2 := fun d m => drawn_nm hd.1 hk nm_d _ (List.mem_map.mpr ⟨d, m, rfl⟩)
      n3 := fun b m => drawn_nm hb.1 (by omega) nm_b _ (List.mem_map.mpr ⟨b, m, rfl⟩)
      c1 := fun s m => by have z := (hs.2 s m).2; omega
      c2 := fun d m p hp => by have z := (hd.2 d m).2.1.2.2 p hp; omega
      c3 := fun d m => by have z := (hd.2 d m).2.2.2.2; omega
      c4 := fun b m => by have z := hb.2 b m; omega
      c5 := fun d m => (hd.2 d m).2.2.1 }
end Sh
/-! C6: law. -/
namespace Sh
open PySem PySem.Spec PyProof.Rows L2
open En (enc)
abbrev namesL : List Str := "_law_script" :: "_law_row" :: "_law_supplies" :: "_law_deals_here" :: "_law_buyers" :: "_law_world" :: "_law_turn" :: "_law_able" :: "_law_come" :: "_law_state" :: "_law_setup" :: "_law_words_here" :: "_law_way" :: "_law_logs" :: "_law_log" :: "_law_at" :: "_law_houses" :: "_law_bent" :: "_law_odd" :: "e" :: "_law_event" :: "_law_one" :: "_law_deal" :: []
def spLaw (K : PySem.W.Frag) : Sp := fun vs H Q _ => ∃ (sc : Addr) (cells : List Int), vs = [.ref sc] ∧ SqL K H sc (cells.map V.int) ∧ ∀ H', Q (.bl true) H'
theorem evs_len (S : Setup) (st : State) (h1 : (housesIn S).length ≤ 2) (h2 : S.2.1.length ≤ 3) (h3 : st.2.2.2.2.length < 63) : (eventsOf S st).length ≤ 1000 := by
  have n1 := evs1_len st S.2.1
  have n2 := evs2_len st.2.2.2.2
  unfold eventsOf evs0
  simp only [List.length_append, List.length_map, List.length_cons, List.length_nil]
  omega
theorem evs_ne (S : Setup) (st : State) : eventsOf S st ≠ [] := by
  unfold eventsOf evs0
  simp
def ws3 : List (List W) := [shopWs, houseWs, bankWs]
def putLog (logs : List Log) (g L : Log) : List Log := logs.map fun x => if x = g then L else x
def bent3 (st : State) (g L : Log) : List State := [(L, st.2), (st.1, st.2.1, putLog st.2.2.1 g L, st.2.2.2), (st.1, st.2.1, st.2.2.1, L, st.2.2.2.2)]
theorem de_words2 {X : Cx} {J : Jn} {env : List SL} {pos p1 p2 q1 q2 q3 q4 q5 q6 r1 r2 r3 r4 : Pos} {j1 j2 j3 j4 j5 j6 k1 k2 k3 k4} : DF X J env (.List [.List [.Constant (.str "begun") j1 q1, .Constant (.str "go") j2 q2, .Constant (.str "drop") j3 q3, .Constant (.str "ended") j4 q4, .Constant (.str "return") j5 q5, .Constant (.str "returned") j6 q6] p1, .List [.Constant (.str "reserved") k1 r1, .Constant (.str "sent") k2 r2, .Constant (.str "released") k3 r3, .Constant (.str "back") k4 r4] p2] pos) [encL shopWs, encL houseWs] :=
  df_lst (da_cons (DE.cast (de_fe (df_lst (da_cons (de_W .begun) (da_cons (de_W .go) (da_cons (de_W .drop) (da_cons (de_W .ended) (da_cons (de_W .ret) (da_cons (de_W .returned) da_nil)))))))) rfl) (da_cons (DE.cast (de_fe (df_lst (da_cons (de_W .reserved) (da_cons (de_W .sent) (da_cons (de_W .released) (da_cons (de_W .back) da_nil)))))) rfl) da_nil))
/-- what the bent log may hold -/
def BentLog (S : Setup) (Wd : List W) (L L' : Log) : Prop := L'.length ≤ 1000 ∧ ∀ p ∈ L', p ∈ L ∨ (p.1 ∈ Wd ∧ p.2 ∈ S.2.1.map (·.1))
theorem bent_log {S : Setup} {Wd : List W} {L L' : Log} (h : BentLog S Wd L L') (hl : isLog L Wd (S.2.1.map (·.1)) = true) : isLog L' Wd (S.2.1.map (·.1)) = true := by
  unfold isLog at hl ⊢
  rw [List.all_eq_true] at hl ⊢
  intro p hp
  rcases h.2 p hp with z | ⟨z1, z2⟩
  · exact hl p z
  · rw [Bool.and_eq_true, decide_eq_true_eq, decide_eq_true_eq]; exact ⟨z1, z2⟩
theorem stB_iff {S : Setup} {log : Log} {heard : List Hrd} {logs : List Log} {bank : Log} {letters : List Let} : isStB S (log, heard, logs, bank, letters) = true ↔ isLog log shopWs (S.2.1.map (·.1)) = true ∧ logs.length = (housesIn S).length ∧ isLog bank bankWs (S.2.1.map (·.1)) = true ∧ ∀ g ∈ logs, isLog g houseWs (S.2.1.map (·.1)) = true := by
  unfold isStB
  rw [Bool.and_eq_true, Bool.and_eq_true, Bool.and_eq_true, decide_eq_true_eq, List.all_eq_true]
def oddL (st : State) : List Th := [.no, .four st, .st ([(W.begun, W.none)], st.2), .st ([(W.x, W.d0)], st.2)]
theorem odd_no {S : Setup} (dr : Drawn S) {st : State} {th : Th} (h : th ∈ oddL st) : isTh S th = false := by
  have nn : W.none ∉ S.2.1.map (·.1) := by
    obtain ⟨i, hi, h1, _⟩ := dr.2.2
    rw [h1]
    have i4 : i = 0 ∨ i = 1 ∨ i = 2 ∨ i = 3 := by omega
    rcases i4 with e | e | e | e <;> subst e <;> decide
  simp only [oddL, List.mem_cons, List.not_mem_nil, or_false] at h
  rcases h with e | e | e | e
  · subst e; rfl
  · subst e; rfl
  · subst e
    show isStB S ([(W.begun, W.none)], st.2) = false
    have z : isLog [(W.begun, W.none)] shopWs (S.2.1.map (·.1)) = false := by
      unfold isLog
      simp only [List.all_cons, List.all_nil, Bool.and_true, Bool.and_eq_false_iff, decide_eq_false_iff_not]
      exact .inr nn
    unfold isStB
    rw [z, Bool.false_and]
  · subst e
    show isStB S ([(W.x, W.d0)], st.2) = false
    have z : isLog [(W.x, W.d0)] shopWs (S.2.1.map (·.1)) = false := by
      unfold isLog
      simp only [List.all_cons, List.all_nil, Bool.and_true, Bool.and_eq_false_iff, decide_eq_false_iff_not]
      exact .inl (by decide)
    unfold isStB
    rw [z, Bool.false_and]
theorem odd_ls {st : State} (h1 : st.2.2.1.length ≤ 1000) (h2 : ∀ g ∈ st.2.2.1, g.length ≤ 1000) (h3 : st.2.2.2.1.length ≤ 1000) {th : Th} (h : th ∈ oddL st) : thLs th := by
  simp only [oddL, List.mem_cons, List.not_mem_nil, or_false] at h
  rcases h with e | e | e | e
  · subst e; trivial
  · subst e; trivial
  · subst e; exact ⟨show 1 ≤ 1000 by decide, h1, h2, h3⟩
  · subst e; exact ⟨show 1 ≤ 1000 by decide, h1, h2, h3⟩
section
variable {P : Program} {w : World} {K : PySem.W.Frag} {mg : Str → Option Value} {base : Heap} {C CE : Addr}
theorem sc_law : FnScope namesL ["_law_script"] (defScope (top 87)) := ⟨rfl, rfl, rfl, by decide +kernel, rfl, by decide +kernel, by decide +kernel⟩
theorem ok_law (T : TxW K mg w) (O : WoT K mg C) (XT : ExT K mg CE) {f : Addr} {fd : FuncData} (F : Fun K "law" "law" (top 87) f fd) : FnOk P w K mg base CX0 12 f fd ["_law_script"] (spLaw K) := by
  refine F.ok sc_law (fun vs H Q E hs => ?_) (fun cdv A outer s0 H vs Q E hr hs => ⟨wpB _ (defBody (top 87)), pss_wp, ?_⟩)
  · obtain ⟨sc, cells, rfl, _⟩ := hs; rfl
  obtain ⟨sc, cells, rfl, hsc, q⟩ := hs
  -- the row of draws
  refine wpB_of (pss_cons (ps_set (i := 1) sc_law.nd rfl (.inl rfl) (pe_lst (pa_cons (pe_var (i := 0) rfl (.inl rfl)) (pa_cons pe_int (pa_cons pe_int (pa_cons pe_int pa_nil)))))) pss_wp) ?_
  refine ⟨_, rfl, show 4 ≤ sizeLine by decide, fun p hp => ?_⟩
  have ne : sc ≠ p ∨ ∀ H', SqL K H' sc (cells.map V.int) := by
    rcases hsc with (h | ⟨o, h⟩) | h
    · exact .inl fun z => by rw [z, hp] at h; cases h
    · exact .inl fun z => by rw [z, hp] at h; cases h
    · exact .inr fun H' => .inr h
  have hc : H sc ≠ none ∨ ∀ H', SqL K H' sc (cells.map V.int) := by
    rcases hsc with (h | ⟨o, h⟩) | h
    · exact .inl (by rw [h]; simp)
    · exact .inl (by rw [h]; simp)
    · exact .inr fun H' => .inr h
  obtain ⟨R, s1⟩ : ∃ R : RowC K, StG K (JR R) (fun _ => none) (upd H p (.lst [.ref sc, .int 0, .int 7214, .int 0])) (.d (.raw (.ref sc)) :: .d (.raw (.ref R.p)) :: .no :: .no :: .no :: .no :: .no :: .no :: .no :: .no :: .no :: .no :: .no :: .no :: .no :: .no :: .no :: .no :: .no :: .no :: .no :: .no :: .no :: []) ((L2.start namesL [.ref sc]).set 1 (some (.ref p))) (upd H p (.lst [.ref sc, .int 0, .int 7214, .int 0])) (fun _ => none) := by
    refine ⟨⟨p, sc, cells, H sc ≠ none, hc⟩, ?_⟩
    have b : Bs (JR (⟨p, sc, cells, H sc ≠ none, hc⟩ : RowC K)) (fun _ => none) (upd H p (.lst [.ref sc, .int 0, .int 7214, .int 0])) := by
      refine ⟨fun a o e => (by cases e), ⟨ne, 0, 7214, 0, upd_same, ne.elim (fun z => sqL_keep hsc (upd_ne z)) (fun k => k _), by decide, by decide, by decide⟩, fun a m => ⟨?_, rfl⟩⟩
      by_cases z : a = p
      · rw [z, upd_same]; simp
      · rw [upd_ne z]
        rcases m with m | ⟨m, n⟩
        · exact absurd m z
        · rw [m]; exact n
    have s0 := st_start (J := JR (⟨p, sc, cells, H sc ≠ none, hc⟩ : RowC K)) (N := namesL) b (.cons (.raw (.ref sc)) .nil : IsAll K _ [.ref sc] [.raw (.ref sc)])
    rw [startE_lit 22 rfl] at s0
    exact s0.setD 1 (.raw (.ref p))
  refine (?main : DB _ (JR R) (.d (.raw (.ref sc)) :: .d (.raw (.ref R.p)) :: .no :: .no :: .no :: .no :: .no :: .no :: .no :: .no :: .no :: .no :: .no :: .no :: .no :: .no :: .no :: .no :: .no :: .no :: .no :: .no :: .no :: []) _ (fun _ => False) (fun d => d = .bl true)) _ _ _ _ _ _ s1 (fun _ _ _ _ h _ => h.elim) (fun v d G' H' u i e => by subst e; rw [i.bl_inv]; exact q H')
  clear s1 ne hc hsc hp q
  -- the setup
  refine db_consM (ds_unpD (is := [2, 3, 4]) (P := fun ds => ∃ S : Setup, Drawn S ∧ ds = [enc S.1, enc S.2.1, .ptup (S.2.2.map enc)]) (Φ := fun env => ∃ S : Setup, Drawn S ∧ env = (.d (.raw (.ref sc)) :: .d (.raw (.ref R.p)) :: .d (enc S.1) :: .d (enc S.2.1) :: .d (.ptup (S.2.2.map enc)) :: .no :: .no :: .no :: .no :: .no :: .no :: .no :: .no :: .no :: .no :: .no :: .no :: .no :: .no :: .no :: .no :: .no :: .no :: [])) ((c_law_deals T.t (hr.mono (by decide)) (de_var (i := 1) rfl) de_int).imp fun d ⟨S, h, e⟩ => ⟨_, e, S, h, rfl⟩) ?a1 (pg_tup rfl (pgs_cons (pg_name (i := 2) sc_law.nd rfl (Or.inl rfl)) (pgs_cons (pg_name (i := 3) sc_law.nd rfl (Or.inl rfl)) (pgs_cons (pg_name (i := 4) sc_law.nd rfl (Or.inl rfl)) pgs_nil))))) ?a2
  case a1 =>
    rintro _ ⟨S, h, rfl⟩
    exact ⟨rfl, S, h, rfl⟩
  rintro _ ⟨S, dr, rfl⟩
  have sv : SV S := drawn_sv dr
  have wf : SW S := sv.toSW
  have l1 : S.1.length ≤ 3 := wf.l1
  have l2 : S.2.1.length ≤ 3 := wf.l2
  have l3 : S.2.2.length ≤ 2 := wf.l3
  have hh : (housesIn S).length ≤ 2 := wf.hh
  refine db_consM (ds_setS (i := 5) (Φ := fun env => ∃ a dx pa, env = (.d (.raw (.ref sc)) :: .d (.raw (.ref R.p)) :: .d (enc S.1) :: .d (enc S.2.1) :: .d (.ptup (S.2.2.map enc)) :: .own (wG C a dx pa S (firstState S) []) :: .no :: .no :: .no :: .no :: .no :: .no :: .no :: .no :: .no :: .no :: .no :: .no :: .no :: .no :: .no :: .no :: .no :: [])) (se_world T.t O (hr.mono (by decide)) (S := S) (de_var (i := 2) rfl) (de_var (i := 3) rfl) (de_weak (de_var (i := 4) rfl)) sv) sc_law.nd ?b1) ?b2
  case b1 =>
    rintro _ ⟨a, dx, pa, rfl⟩
    exact ⟨a, dx, pa, rfl⟩
  rintro _ ⟨a, dx, pa, rfl⟩
  -- the events
  refine db_consM (ds_forR (t := .nm 6) (N := fun n => n < 40) (Φ := fun env => ∃ t st es x6 x7 x8, t ≤ 39 ∧ Inv S t st ∧ env = (.d (.raw (.ref sc)) :: .d (.raw (.ref R.p)) :: .d (enc S.1) :: .d (enc S.2.1) :: .d (.ptup (S.2.2.map enc)) :: .own (wG C a dx pa S st es) :: x6 :: x7 :: x8 :: .no :: .no :: .no :: .no :: .no :: .no :: .no :: .no :: .no :: .no :: .no :: .no :: .no :: .no :: []))
    (ip_rangeN T.t.f_range (c_law_taken T.t (hr.mono (by decide)) 40 (de_var (i := 1) rfl) de_int (by decide) (by decide)) fun n hn => by omega)
    (fun n i env => ∃ st es x6 x7 x8, Inv S i st ∧ es.length = i ∧ env = (.d (.raw (.ref sc)) :: .d (.raw (.ref R.p)) :: .d (enc S.1) :: .d (enc S.2.1) :: .d (.ptup (S.2.2.map enc)) :: .own (wG C a dx pa S st es) :: x6 :: x7 :: x8 :: .no :: .no :: .no :: .no :: .no :: .no :: .no :: .no :: .no :: .no :: .no :: .no :: .no :: .no :: [])) (fun n hn => ⟨firstState S, [], .no, .no, .no, inv0 sv, rfl, rfl⟩) ?c1 ?c2 ?c3 PassesOwn.never) ?c4
  case c3 => exact (pg_name (i := 6) sc_law.nd rfl (Or.inl rfl))
  case c2 =>
    rintro n hn _ ⟨st, es, x6, x7, x8, h1, h2, rfl⟩
    exact ⟨n, st, es, x6, x7, x8, by omega, h1, rfl⟩
  case c1 =>
    rintro n hn i _ hi ⟨st, es, x6, x7, x8, iv, le, rfl⟩
    have i38 : i ≤ 38 := by omega
    have bd : Bd S st := inv_bd sv iv (by omega)
    have ok := inv_ok sv iv i38
    have el : (eventsOf S st).length ≤ 1000 := evs_len S st hh l2 bd.b6
    refine ⟨_, .nm _ _ _, ?_⟩
    show DB _ _ (.d (.raw (.ref sc)) :: .d (.raw (.ref R.p)) :: .d (enc S.1) :: .d (enc S.2.1) :: .d (.ptup (S.2.2.map enc)) :: .own (wG C a dx pa S st es) :: .d (.int (0 + (i : Nat))) :: x7 :: x8 :: .no :: .no :: .no :: .no :: .no :: .no :: .no :: .no :: .no :: .no :: .no :: .no :: .no :: .no :: []) _ _ _
    refine db_cons (ds_setD (i := 7) (de_can T.t O (hr.mono (by decide)) (i := 5) rfl wf (Nat.lt_succ_of_lt bd.b6)) sc_law.nd ?d1)
    show DB _ _ (.d (.raw (.ref sc)) :: .d (.raw (.ref R.p)) :: .d (enc S.1) :: .d (enc S.2.1) :: .d (.ptup (S.2.2.map enc)) :: .own (wG C a dx pa S st es) :: .d (.int (0 + (i : Nat))) :: .d (.lst ((eventsOf S st).map encE)) :: x8 :: .no :: .no :: .no :: .no :: .no :: .no :: .no :: .no :: .no :: .no :: .no :: .no :: .no :: .no :: []) _ _ _
    refine db_cons (ds_setLcP (i := 8) (xs := eventsOf S st) (f := encE) (p := fun e => decide (e.word = W.come)) (g := encE) (t := .nm 20) (own := [("_law_event", 20)]) (di_lst (de_var (i := 7) rfl)) sc_law.nd (blkOk_by (N := namesL) (sc := defScope (top 87)) (by decide +kernel)) (by decide) (fun _ _ _ _ _ => (pg_name (i := 20) sc_law.nd rfl (Or.inl rfl))) (fun _ => .nm _ _ _) (fun _ _ _ _ _ x hx => dts_one (dt_eq hr (x := x.word) (y := W.come) (de_ixn 0 (ds := enc x.word :: x.arg) (de_var (i := 20) rfl) rfl) (de_W .come))) (fun _ _ _ _ _ x hx hp => (de_var (i := 20) rfl)) (small (m := 1000) el) ?d2)
    show DB _ _ (.d (.raw (.ref sc)) :: .d (.raw (.ref R.p)) :: .d (enc S.1) :: .d (enc S.2.1) :: .d (.ptup (S.2.2.map enc)) :: .own (wG C a dx pa S st es) :: .d (.int (0 + (i : Nat))) :: .d (.lst ((eventsOf S st).map encE)) :: .own (.lst (((eventsOf S st).filter fun e => decide (e.word = W.come)).map encE)) :: .no :: .no :: .no :: .no :: .no :: .no :: .no :: .no :: .no :: .no :: .no :: .no :: .no :: .no :: []) _ _ _
    refine db_show 8 rfl ?_
    show DB _ _ (.d (.raw (.ref sc)) :: .d (.raw (.ref R.p)) :: .d (enc S.1) :: .d (enc S.2.1) :: .d (.ptup (S.2.2.map enc)) :: .own (wG C a dx pa S st es) :: .d (.int (0 + (i : Nat))) :: .d (.lst ((eventsOf S st).map encE)) :: .d (.lst (((eventsOf S st).filter fun e => decide (e.word = W.come)).map encE)) :: .no :: .no :: .no :: .no :: .no :: .no :: .no :: .no :: .no :: .no :: .no :: .no :: .no :: .no :: []) _ _ _
    refine db_cons (ds_do T O (hr.mono (by decide)) (i := 5) rfl ?d3 wf bd (by omega) ?d4)
    case d3 =>
      refine c_law_pick T.t (hr.mono (by decide)) (de_var (i := 1) rfl) (PA := fun ds => ∃ evs : List Ev, ds = evs.map encE ∧ evs ≠ [] ∧ evs.length ≤ 1000 ∧ ∀ e ∈ evs, e ∈ eventsOf S st) (ep_ifP (B := fun r => r = true → ((eventsOf S st).filter fun e => decide (e.word = W.come)) ≠ []) (tp_w (dwp_and (B1 := fun r => r = true → ((eventsOf S st).filter fun e => decide (e.word = W.come)) ≠ []) (dt_neEv hr (de_var (i := 8) rfl) (de_fe df_nil)) (fun h => dwp_and1 ((tp_gtN (c_law_taken T.t (hr.mono (by decide)) 3 (de_var (i := 1) rfl) de_int (by decide) (by decide)) de_int).imp fun _ _ _ => h rfl)) (fun _ h => by cases h))) (fun h => ?e1) (fun _ => ?e2)) ?e3
      case e1 =>
        exact (de_var (i := 8) (d := .lst (((eventsOf S st).filter fun e => decide (e.word = W.come)).map encE)) rfl).imp fun d e => ⟨_, e, ((eventsOf S st).filter fun e => decide (e.word = W.come)), rfl, h rfl, Nat.le_trans (List.length_filter_le _ _) el, fun e he => (List.mem_filter.mp he).1⟩
      case e2 =>
        exact (de_var (i := 7) (d := .lst ((eventsOf S st).map encE)) rfl).imp fun d e => ⟨_, e, eventsOf S st, rfl, evs_ne S st, el, fun e he => he⟩
      case e3 =>
        rintro _ ⟨evs, rfl, h1, h2, h3⟩
        refine ⟨fun z => h1 (List.map_eq_nil_iff.mp z), by rw [List.length_map]; exact h2, fun x hx => ?_⟩
        obtain ⟨e, he, rfl⟩ := List.mem_map.mp hx
        exact ⟨e, rfl, ok e (h3 e he)⟩
    case d4 =>
      intro ev st' h1 h2
      exact db_nil ⟨st', _, _, _, _, inv_step sv iv h1 h2, by rw [List.length_append, le]; rfl, rfl⟩
  rintro _ ⟨t, st, es, x6, x7, x8, t39, iv, rfl⟩
  obtain ⟨log, heard, logs, bank, letters⟩ := st
  -- what the state is
  have ib : isStB S (log, heard, logs, bank, letters) = true := inv_st iv
  obtain ⟨sm1, sm2, sm3⟩ := inv_small sv iv t39
  have sm1' : log.length ≤ 39 := sm1
  have sm2' : ∀ g ∈ logs, g.length ≤ 39 := sm2
  have sm3' : bank.length ≤ 39 := sm3
  obtain ⟨ib1, ib2, ib3, ib4⟩ := stB_iff.mp ib
  have ls : Ls S (log, heard, logs, bank, letters) := ⟨by show log.length ≤ 1000; omega, ib2, fun g hg => Nat.le_trans (sm2' g hg) (by decide), by show bank.length ≤ 1000; omega⟩
  have f0 : faultsIn S (log, heard, logs, bank, letters) = [] := inv_faults sv iv
  have g0 : fineB S (log, heard, logs, bank, letters) = true := by rw [← faults_fine sv ib, f0]; rfl
  refine db_consM (ds_par (i := 9) (j := 10) (P := fun l => l = [.d (enc ((log, heard, logs, bank, letters) : State)), .d (.tup [enc S.1, enc S.2.1, .ptup (S.2.2.map enc)])]) (Φ := fun env => env = (.d (.raw (.ref sc)) :: .d (.raw (.ref R.p)) :: .d (enc S.1) :: .d (enc S.2.1) :: .d (.ptup (S.2.2.map enc)) :: .own (wG C a dx pa S (log, heard, logs, bank, letters) es) :: x6 :: x7 :: x8 :: .d (enc ((log, heard, logs, bank, letters) : State)) :: .d (.tup [enc S.1, enc S.2.1, .ptup (S.2.2.map enc)]) :: .no :: .no :: .no :: .no :: .no :: .no :: .no :: .no :: .no :: .no :: .no :: .no :: [])) (das_cons (se_d (de_wstate O (i := 5) rfl)) (das_cons (se_d (de_tup (da_cons (de_var (i := 2) rfl) (da_cons (de_var (i := 3) rfl) (da_cons (de_var (i := 4) rfl) da_nil))))) as_nil)) sc_law.nd ?f1) ?f2
  case f1 =>
    rintro _ rfl
    exact ⟨_, _, rfl, rfl⟩
  rintro _ rfl
  clear iv
  refine db_cons (ds_if (b := false) (dt_w (dw_or (c1 := false) (c2 := false) (dt_not (c1 := true) (dt_val (c_law_alike T.t (hr.mono (by decide)) (DE.cast (de_audit T.t O (hr.mono (by decide)) (i := 5) rfl wf ls) (by rw [f0]; rfl)) (de_fe df_nil)))) fun _ => (dw_or1 (dt_not (c1 := true) (dt_val (c_law_alike T.t (hr.mono (by decide)) (DE.cast (c_faults T.t (hr.mono (by decide)) (x := S) (y := (log, heard, logs, bank, letters)) (de_var (i := 2) rfl) (de_var (i := 3) rfl) (de_weak (de_var (i := 4) rfl)) (de_var (i := 9) rfl) sv ls ib) (by rw [f0]; rfl)) (de_fe df_nil))))))) (fun h => absurd h (by decide)) (fun _ => ?f3))
  refine db_nil ?_
  refine db_cons (ds_if (b := false) (dt_not (c1 := true) (dt_val (DE.cast (c_law_fine T.t (hr.mono (by decide)) (S := S) (st := (log, heard, logs, bank, letters)) (de_var (i := 10) rfl) (de_var (i := 9) rfl) wf ls) (by rw [g0])))) (fun h => absurd h (by decide)) (fun _ => ?f4))
  refine db_nil ?_
  refine db_cons ?_
  refine @ds_setOD _ _ _ _ _ _ _ 11 _ _ [encL shopWs, encL houseWs] ?g1a ?g1b ?g1 ?g1c ?g1d ?g1e ?g1f
  case g1a => exact de_words2
  case g1b => exact sc_law.nd
  case g1c => rfl
  case g1d => exact Or.inl rfl
  case g1e => rfl
  case g1f => first | exact Or.inl rfl | exact Or.inr rfl
  show DB _ _ (.d (.raw (.ref sc)) :: .d (.raw (.ref R.p)) :: .d (enc S.1) :: .d (enc S.2.1) :: .d (.ptup (S.2.2.map enc)) :: .own (wG C a dx pa S (log, heard, logs, bank, letters) es) :: x6 :: x7 :: x8 :: .d (enc ((log, heard, logs, bank, letters) : State)) :: .d (.tup [enc S.1, enc S.2.1, .ptup (S.2.2.map enc)]) :: .own (.lst [encL shopWs, encL houseWs]) :: .no :: .no :: .no :: .no :: .no :: .no :: .no :: .no :: .no :: .no :: .no :: []) _ _ _
  refine db_cons (ds_appendD (i := 11) (d := encL bankWs) rfl (DE.cast (de_fe (df_lst (da_cons (de_W .held) (da_cons (de_W .taken) (da_cons (de_W .freed) (da_cons (de_W .refunded) da_nil)))))) rfl) (by decide) ?g2)
  show DB _ _ (.d (.raw (.ref sc)) :: .d (.raw (.ref R.p)) :: .d (enc S.1) :: .d (enc S.2.1) :: .d (.ptup (S.2.2.map enc)) :: .own (wG C a dx pa S (log, heard, logs, bank, letters) es) :: x6 :: x7 :: x8 :: .d (enc ((log, heard, logs, bank, letters) : State)) :: .d (.tup [enc S.1, enc S.2.1, .ptup (S.2.2.map enc)]) :: .own (.lst (ws3.map encL)) :: .no :: .no :: .no :: .no :: .no :: .no :: .no :: .no :: .no :: .no :: .no :: []) _ _ _
  refine db_show 11 rfl ?_
  show DB _ _ (.d (.raw (.ref sc)) :: .d (.raw (.ref R.p)) :: .d (enc S.1) :: .d (enc S.2.1) :: .d (.ptup (S.2.2.map enc)) :: .own (wG C a dx pa S (log, heard, logs, bank, letters) es) :: x6 :: x7 :: x8 :: .d (enc ((log, heard, logs, bank, letters) : State)) :: .d (.tup [enc S.1, enc S.2.1, .ptup (S.2.2.map enc)]) :: .d (.lst (ws3.map encL)) :: .no :: .no :: .no :: .no :: .no :: .no :: .no :: .no :: .no :: .no :: .no :: []) _ _ _
  refine db_consM (ds_set (i := 12) (Φ := fun env => ∃ n : Nat, n < 3 ∧ env = (.d (.raw (.ref sc)) :: .d (.raw (.ref R.p)) :: .d (enc S.1) :: .d (enc S.2.1) :: .d (.ptup (S.2.2.map enc)) :: .own (wG C a dx pa S (log, heard, logs, bank, letters) es) :: x6 :: x7 :: x8 :: .d (enc ((log, heard, logs, bank, letters) : State)) :: .d (.tup [enc S.1, enc S.2.1, .ptup (S.2.2.map enc)]) :: .d (.lst (ws3.map encL)) :: .d (.int (n : Nat)) :: .no :: .no :: .no :: .no :: .no :: .no :: .no :: .no :: .no :: .no :: [])) (c_law_taken T.t (hr.mono (by decide)) 3 (de_var (i := 1) rfl) de_int (by decide) (by decide)) ?h1 sc_law.nd) ?h2
  case h1 =>
    rintro d ⟨n, hn, rfl⟩
    exact ⟨n, hn, rfl⟩
  rintro _ ⟨n, hn, rfl⟩
  obtain ⟨Wd, hWd⟩ : ∃ Wd, ws3[n]? = some Wd := ⟨ws3[n]'hn, List.getElem?_eq_getElem hn⟩
  have hW0 : Wd ≠ [] := by
    have i3 : n = 0 ∨ n = 1 ∨ n = 2 := by omega
    rcases i3 with e | e | e <;> subst e <;> cases hWd <;> decide
  have hW9 : Wd.length ≤ 1000 := by
    have i3 : n = 0 ∨ n = 1 ∨ n = 2 := by omega
    rcases i3 with e | e | e <;> subst e <;> cases hWd <;> decide
  have lp : 0 < logs.length := by
    have y : logs.length = (housesIn S).length := ib2
    obtain ⟨i, i1, i3, so⟩ := dr.1
    have z := so.len
    cases e : S.1 with
    | nil => rw [e] at z; simp at z; omega
    | cons s r =>
      have m : s.2.1 ∈ housesIn S := house_mem (by rw [e]; exact .head _)
      rw [y]
      exact List.length_pos_of_mem m
  have y2 : logs.length = (housesIn S).length := ib2
  refine db_consM (ds_set (i := 13) (P := fun d => ∃ g ∈ logs, d = .lst (([log, g, bank] : List Log).map enc)) (Φ := fun env => ∃ g ∈ logs, env = (.d (.raw (.ref sc)) :: .d (.raw (.ref R.p)) :: .d (enc S.1) :: .d (enc S.2.1) :: .d (.ptup (S.2.2.map enc)) :: .own (wG C a dx pa S (log, heard, logs, bank, letters) es) :: x6 :: x7 :: x8 :: .d (enc ((log, heard, logs, bank, letters) : State)) :: .d (.tup [enc S.1, enc S.2.1, .ptup (S.2.2.map enc)]) :: .d (.lst (ws3.map encL)) :: .d (.int (n : Nat)) :: .d (.lst (([log, g, bank] : List Log).map enc)) :: .no :: .no :: .no :: .no :: .no :: .no :: .no :: .no :: .no :: [])) (ep_fe (fe_lst (PA := fun ds => ∃ g ∈ logs, ds = ([log, g, bank] : List Log).map enc) (AP'.imp (ap_dc (de_ixn 0 (ds := [enc log, enc heard, enc logs, enc bank, enc letters]) (de_var (i := 9) rfl) rfl) (ap_ec (ep_ixTN (ds := logs.map enc) (de_ixn 2 (ds := [enc log, enc heard, enc logs, enc bank, enc letters]) (de_var (i := 9) rfl) rfl) (c_law_taken T.t (hr.mono (by decide)) ((logs.map (enc : Log → D)).length) (de_var (i := 1) rfl) (de_len (ds := logs.map enc) T.t.f_len (de_ixn 2 (ds := [enc log, enc heard, enc logs, enc bank, enc letters]) (de_var (i := 9) rfl) rfl) (.tup _)) (by rw [List.length_map]; exact lp) (by rw [List.length_map]; omega))) (ap_dc (de_ixn 3 (ds := [enc log, enc heard, enc logs, enc bank, enc letters]) (de_var (i := 9) rfl) rfl) da_nil))) ?i1) ?i2) ?i3) ?i4 sc_law.nd) ?i5
  case i1 =>
    rintro _ ⟨_, rfl, d, _, rfl, hd, _, rfl, rfl⟩
    obtain ⟨g, hg, rfl⟩ := List.mem_map.mp hd
    exact ⟨g, hg, rfl⟩
  case i2 =>
    rintro _ ⟨g, hg, rfl⟩
    show 3 ≤ sizeLine
    decide
  case i3 =>
    rintro _ ⟨g, hg, rfl⟩
    exact ⟨g, hg, rfl⟩
  case i4 =>
    rintro _ ⟨g, hg, rfl⟩
    exact ⟨g, hg, rfl⟩
  rintro _ ⟨g, hg, rfl⟩
  obtain ⟨L, hL⟩ : ∃ L, ([log, g, bank] : List Log)[n]? = some L := ⟨([log, g, bank] : List Log)[n]'hn, List.getElem?_eq_getElem hn⟩
  have hg39 := sm2' g hg
  have L39 : L.length ≤ 39 := by
    have i3 : n = 0 ∨ n = 1 ∨ n = 2 := by omega
    rcases i3 with e | e | e <;> subst e <;> cases hL <;> assumption
  have aL : atI (([log, g, bank] : List Log).map (enc : Log → D)) ((n : Nat) : Int) = some (enc L) := atI_nat (by rw [List.getElem?_map, hL]; rfl)
  have aW : atI (ws3.map (encL : List W → D)) ((n : Nat) : Int) = some (encL Wd) := atI_nat (by rw [List.getElem?_map, hWd]; rfl)
  refine db_consM (ds_unp (is := [14, 15]) (P := fun l => ∃ k : Nat, k ≤ L.length ∧ l = [.own (.lst (L.map enc)), .d (.int (k : Nat))]) (Φ := fun env => ∃ k : Nat, k ≤ L.length ∧ env = (.d (.raw (.ref sc)) :: .d (.raw (.ref R.p)) :: .d (enc S.1) :: .d (enc S.2.1) :: .d (.ptup (S.2.2.map enc)) :: .own (wG C a dx pa S (log, heard, logs, bank, letters) es) :: x6 :: x7 :: x8 :: .d (enc ((log, heard, logs, bank, letters) : State)) :: .d (.tup [enc S.1, enc S.2.1, .ptup (S.2.2.map enc)]) :: .d (.lst (ws3.map encL)) :: .d (.int (n : Nat)) :: .d (.lst (([log, g, bank] : List Log).map enc)) :: .own (.lst (L.map enc)) :: .d (.int (k : Nat)) :: .no :: .no :: .no :: .no :: .no :: .no :: .no :: [])) (as_cons (P := fun x => x = .own (.lst (L.map enc))) (se_f (df_list T.t.f_list (de_ixL (ds := ([log, g, bank] : List Log).map enc) (de_var (i := 13) rfl) (de_var (i := 12) rfl) aL) (.tup _))) (as_cons (P := fun x => ∃ k : Nat, k ≤ L.length ∧ x = .d (.int (k : Nat))) (Ps := fun l => l = []) (P2 := fun l => ∃ k : Nat, k ≤ L.length ∧ l = [.d (.int (k : Nat))]) (se_ep (c_law_taken T.t (hr.mono (by decide)) (L.length + 1) (de_var (i := 1) rfl) (DE.cast (de_add (i := ((L.map (enc : W × W → D)).length : Nat)) (j := 1) (de_len (ds := L.map enc) T.t.f_len (de_ixL (ds := ([log, g, bank] : List Log).map enc) (de_var (i := 13) rfl) (de_var (i := 12) rfl) aL) (.tup _)) de_int) (by rw [List.length_map]; rfl)) (by omega) (by omega)) ?j1) as_nil ?j2) ?j3) ?j4 (pg_tup rfl (pgs_cons (pg_name (i := 14) sc_law.nd rfl (Or.inr rfl)) (pgs_cons (pg_name (i := 15) sc_law.nd rfl (Or.inl rfl)) pgs_nil)))) ?j5
  case j1 =>
    rintro d ⟨k, hk, rfl⟩
    exact ⟨k, by omega, rfl⟩
  case j2 =>
    rintro x xs ⟨k, hk, rfl⟩ rfl
    exact ⟨k, hk, rfl⟩
  case j3 =>
    rintro x xs rfl ⟨k, hk, rfl⟩
    exact ⟨k, hk, rfl⟩
  case j4 =>
    rintro _ ⟨k, hk, rfl⟩
    exact ⟨rfl, k, hk, rfl⟩
  rintro _ ⟨k, hk, rfl⟩
  have lL : (L.map (enc : W × W → D)).length = L.length := List.length_map _
  refine db_consM (Φ1 := fun env => ∃ L', BentLog S Wd L L' ∧ env = (.d (.raw (.ref sc)) :: .d (.raw (.ref R.p)) :: .d (enc S.1) :: .d (enc S.2.1) :: .d (.ptup (S.2.2.map enc)) :: .own (wG C a dx pa S (log, heard, logs, bank, letters) es) :: x6 :: x7 :: x8 :: .d (enc ((log, heard, logs, bank, letters) : State)) :: .d (.tup [enc S.1, enc S.2.1, .ptup (S.2.2.map enc)]) :: .d (.lst (ws3.map encL)) :: .d (.int (n : Nat)) :: .d (.lst (([log, g, bank] : List Log).map enc)) :: .own (.lst (L'.map enc)) :: .d (.int (k : Nat)) :: .no :: .no :: .no :: .no :: .no :: .no :: .no :: [])) (tp_if (PB := fun r => r = true → S.2.1 ≠ []) (tp_w (dwp_and (B1 := fun r => r = true → S.2.1 ≠ []) ((dt_ne hr (x := S.2.1) (y := ([] : List Deal)) (de_var (i := 3) rfl) (de_tup da_nil)).imp fun r e z => by subst e; simpa using z) (fun h => dwp_and1 ((tp_eqN hr (c_law_taken T.t (hr.mono (by decide)) 2 (de_var (i := 1) rfl) de_int (by decide) (by decide)) de_int).imp fun _ _ _ => h rfl)) (fun _ h => by cases h))) (fun h => ?k1) (fun _ => ?k2)) ?k3
  case k1 =>
    have dne : S.2.1 ≠ [] := h rfl
    refine db_cons (ds_insert (i := 14) (N := fun z => z ≤ L.length) (P := fun d => ∃ q : W × W, q.1 ∈ Wd ∧ q.2 ∈ S.2.1.map (fun z : Deal => z.1) ∧ d = enc q) rfl ((de_var (i := 15) (d := .int (k : Nat)) rfl).imp fun d e => ⟨k, hk, e⟩) (ep_tup (ap_ec (c_law_pickD T.t (hr.mono (by decide)) (ds := Wd.map enc) (de_var (i := 1) rfl) (de_ixL (ds := ws3.map encL) (de_var (i := 11) rfl) (de_var (i := 12) rfl) aW) (fun z => hW0 (List.map_eq_nil_iff.mp z)) (by rw [List.length_map]; exact hW9)) (ap_ec (c_law_pickD T.t (hr.mono (by decide)) (ds := S.2.1.map fun d => enc d.1) (de_var (i := 1) rfl) (de_fe (df_lc0 (xs := S.2.1) (f := enc) (g := fun d => enc d.1) (t := .nm 22) (own := [("_law_deal", 22)]) (di_tup (de_var (i := 3) rfl)) rfl sc_law.nd (blkOk_by (N := namesL) (sc := defScope (top 87)) (by decide +kernel)) (by decide) (fun _ _ _ _ _ => (pg_name (i := 22) sc_law.nd rfl (Or.inl rfl))) (fun _ => .nm _ _ _) (fun _ _ _ _ _ x hx => (de_ixn 0 (de_var (i := 22) rfl) rfl)) (small (m := 3) l2))) (fun z => dne (List.map_eq_nil_iff.mp z)) (by rw [List.length_map]; omega)) da_nil)) ?l1) (fun n hn => by omega) (by rw [lL]; omega) ?l2)
    case l1 =>
      rintro _ ⟨d1, _, rfl, h1, d2, _, rfl, h2, rfl⟩
      obtain ⟨w1, hw1, rfl⟩ := List.mem_map.mp h1
      obtain ⟨w2, hw2, rfl⟩ := List.mem_map.mp h2
      exact ⟨show 2 ≤ sizeLine by decide, (w1, w2.1), hw1, List.mem_map.mpr ⟨w2, hw2, rfl⟩, rfl⟩
    case l2 =>
      rintro z _ hz ⟨q, q1, q2, rfl⟩
      refine db_nil ⟨L.take z ++ [q] ++ L.drop z, ⟨?_, fun p hp => ?_⟩, ?_⟩
      · simp only [List.length_append, List.length_take, List.length_drop, List.length_cons, List.length_nil]; omega
      · rcases List.mem_append.mp hp with y | y
        · rcases List.mem_append.mp y with y | y
          · exact .inl (List.mem_of_mem_take y)
          · rw [List.mem_singleton.mp y]; exact .inr ⟨q1, q2⟩
        · exact .inl (List.mem_of_mem_drop y)
      · rw [List.map_append, List.map_append, List.map_take, List.map_drop]; rfl
  case k2 =>
    refine db_cons (ds_if (b := !decide (L = [])) (tp_cold (dt_neL hr (x := L) (y := ([] : Log)) (de_var (i := 14) (d := .lst (L.map enc)) rfl) (de_fe df_nil))) (fun h => ?l3) (fun h => ?l4))
    case l4 => exact db_nil (db_nil ⟨L, ⟨by omega, fun p hp => .inl hp⟩, rfl⟩)
    case l3 =>
      have ln : L ≠ [] := by simpa using h
      have lpos : 0 < L.length := List.length_pos_iff.mpr ln
      refine db_cons (ds_popAt (i := 14) rfl ((ep_min2 (i := L.length - 1) (N := fun z => z ≤ L.length) T.t.f_min ((de_var (i := 15) (d := .int (k : Nat)) rfl).imp fun d e => ⟨k, hk, e⟩) (DE.cast (de_sub (i := ((L.map (enc : W × W → D)).length : Nat)) (j := 1) (de_cold (de_len (ds := L.map enc) T.t.f_len (de_var (i := 14) rfl) (.lst _)) (.int _)) de_int) (by rw [lL]; congr 1; omega))).imp fun d ⟨z, hz, e⟩ => ⟨z, by rw [lL]; omega, e⟩) (by rw [lL]; omega) ?l5)
      intro z hz
      refine db_nil (db_nil ⟨L.eraseIdx z, ⟨?_, fun p hp => .inl (List.mem_of_mem_eraseIdx hp)⟩, by rw [map_erase]; rfl⟩)
      exact Nat.le_trans (List.length_eraseIdx_le _ _) (by omega)
  rintro _ ⟨L', bl, rfl⟩
  have L9 : L'.length ≤ 1000 := bl.1
  refine db_cons (ds_setD (i := 16) (d := enc (putLog logs g L')) (de_cold (DE.cast (d := .tup (logs.map fun x => enc (if x = g then L' else x))) (de_tuple T.t.f_tuple (de_fe (df_lc0 (xs := logs) (f := enc) (g := fun x => enc (if x = g then L' else x)) (t := .nm 21) (own := [("_law_one", 21)]) (di_tup (de_ixn 2 (ds := [enc log, enc heard, enc logs, enc bank, enc letters]) (de_var (i := 9) rfl) rfl)) rfl sc_law.nd (blkOk_by (N := namesL) (sc := defScope (top 87)) (by decide +kernel)) (by decide) (fun _ _ _ _ _ => (pg_name (i := 21) sc_law.nd rfl (Or.inl rfl))) (fun _ => .nm _ _ _) (fun _ _ _ _ _ x hx => (DE.cast (d := if decide (x = g) = true then enc L' else enc x) (de_ite (dt_eq hr (x := x) (y := g) (de_var (i := 21) rfl) (de_ixnL 1 (ds := ([log, g, bank] : List Log).map enc) (de_var (i := 13) rfl) rfl)) (fun _ => de_tuple T.t.f_tuple (de_var (i := 14) (d := .lst (L'.map enc)) rfl)) (fun _ => (de_var (i := 21) rfl))) (by by_cases z : x = g <;> simp [z]))) (small (m := 10) (by omega))))) ?m1) (En.tu _)) sc_law.nd ?m2)
  case m1 => unfold putLog; show D.tup _ = D.tup _; rw [List.map_map]; rfl
  show DB _ _ (.d (.raw (.ref sc)) :: .d (.raw (.ref R.p)) :: .d (enc S.1) :: .d (enc S.2.1) :: .d (.ptup (S.2.2.map enc)) :: .own (wG C a dx pa S (log, heard, logs, bank, letters) es) :: x6 :: x7 :: x8 :: .d (enc ((log, heard, logs, bank, letters) : State)) :: .d (.tup [enc S.1, enc S.2.1, .ptup (S.2.2.map enc)]) :: .d (.lst (ws3.map encL)) :: .d (.int (n : Nat)) :: .d (.lst (([log, g, bank] : List Log).map enc)) :: .own (.lst (L'.map enc)) :: .d (.int (k : Nat)) :: .d (enc (putLog logs g L')) :: .no :: .no :: .no :: .no :: .no :: .no :: []) _ _ _
  obtain ⟨st', hst'⟩ : ∃ st', (bent3 (log, heard, logs, bank, letters) g L')[n]? = some st' := ⟨(bent3 (log, heard, logs, bank, letters) g L')[n]'hn, List.getElem?_eq_getElem hn⟩
  have aB : atI ((bent3 (log, heard, logs, bank, letters) g L').map (enc : State → D)) ((n : Nat) : Int) = some (enc st') := atI_nat (by rw [List.getElem?_map, hst']; rfl)
  refine db_cons (ds_setD (i := 17) (d := enc st') (de_cold (de_ixL (ds := (bent3 (log, heard, logs, bank, letters) g L').map enc) (de_fe ?n1) (de_var (i := 12) rfl) aB) (En.tu _)) sc_law.nd ?n2)
  case n1 =>
    refine df_lst (da_cons ?o1 (da_cons ?o2 (da_cons ?o3 da_nil)))
    case o1 => exact DE.cast (de_catT (xs := [enc L']) (ys := [enc heard, enc logs, enc bank, enc letters]) (de_tup (da_cons (de_tuple T.t.f_tuple (de_var (i := 14) (d := .lst (L'.map enc)) rfl)) da_nil)) (DE.cast (de_slT (ds := [enc log, enc heard, enc logs, enc bank, enc letters]) (de_var (i := 9) rfl) (po1 (i := ((1 : Nat) : Int)) de_int) po0) (by rw [cut_drop]; rfl)) (show 1 + 4 ≤ sizeLine by decide)) rfl
    case o2 => exact DE.cast (de_catT (xs := [enc log, enc heard, enc (putLog logs g L')]) (ys := [enc bank, enc letters]) (de_catT (xs := [enc log, enc heard]) (ys := [enc (putLog logs g L')]) (DE.cast (de_slT (ds := [enc log, enc heard, enc logs, enc bank, enc letters]) (de_var (i := 9) rfl) po0 (po1 (i := ((2 : Nat) : Int)) de_int)) (by rw [cut_take]; rfl)) (de_tup (da_cons (de_var (i := 16) rfl) da_nil)) (show 2 + 1 ≤ sizeLine by decide)) (DE.cast (de_slT (ds := [enc log, enc heard, enc logs, enc bank, enc letters]) (de_var (i := 9) rfl) (po1 (i := ((3 : Nat) : Int)) de_int) po0) (by rw [cut_drop]; rfl)) (show 3 + 2 ≤ sizeLine by decide)) rfl
    case o3 => exact DE.cast (de_catT (xs := [enc log, enc heard, enc logs]) (ys := [enc L', enc letters]) (DE.cast (de_slT (ds := [enc log, enc heard, enc logs, enc bank, enc letters]) (de_var (i := 9) rfl) po0 (po1 (i := ((3 : Nat) : Int)) de_int)) (by rw [cut_take]; rfl)) (de_tup (da_cons (de_tuple T.t.f_tuple (de_var (i := 14) (d := .lst (L'.map enc)) rfl)) (da_cons (de_ixn 4 (ds := [enc log, enc heard, enc logs, enc bank, enc letters]) (de_var (i := 9) rfl) rfl) da_nil))) (show 3 + 2 ≤ sizeLine by decide)) rfl
  show DB _ _ (.d (.raw (.ref sc)) :: .d (.raw (.ref R.p)) :: .d (enc S.1) :: .d (enc S.2.1) :: .d (.ptup (S.2.2.map enc)) :: .own (wG C a dx pa S (log, heard, logs, bank, letters) es) :: x6 :: x7 :: x8 :: .d (enc ((log, heard, logs, bank, letters) : State)) :: .d (.tup [enc S.1, enc S.2.1, .ptup (S.2.2.map enc)]) :: .d (.lst (ws3.map encL)) :: .d (.int (n : Nat)) :: .d (.lst (([log, g, bank] : List Log).map enc)) :: .own (.lst (L'.map enc)) :: .d (.int (k : Nat)) :: .d (enc (putLog logs g L')) :: .d (enc st') :: .no :: .no :: .no :: .no :: .no :: []) _ _ _
  have gW : isLog g houseWs (S.2.1.map (·.1)) = true := ib4 g hg
  have pL : putLog logs g L' = logs.map fun x => if x = g then L' else x := rfl
  obtain ⟨ib', ls'⟩ : isStB S st' = true ∧ Ls S st' := by
    have i3 : n = 0 ∨ n = 1 ∨ n = 2 := by omega
    rcases i3 with e | e | e
    · subst e; cases hst'; cases hL; cases hWd
      exact ⟨stB_iff.mpr ⟨bent_log bl ib1, ib2, ib3, ib4⟩, ⟨L9, ib2, ls.l3, ls.l4⟩⟩
    · subst e; cases hst'; cases hL; cases hWd
      have z := bent_log bl gW
      refine ⟨stB_iff.mpr ⟨ib1, by rw [pL, List.length_map]; exact ib2, ib3, fun x hx => ?_⟩, ⟨ls.l1, by show (putLog logs g L').length = _; rw [pL, List.length_map]; exact ib2, fun x hx => ?_, ls.l4⟩⟩
      · rw [pL] at hx
        obtain ⟨y, hy, rfl⟩ := List.mem_map.mp hx
        show isLog (if y = g then L' else y) houseWs _ = true
        split
        · exact z
        · exact ib4 y hy
      · have hx' : x ∈ putLog logs g L' := hx
        rw [pL] at hx'
        obtain ⟨y, hy, rfl⟩ := List.mem_map.mp hx'
        show (if y = g then L' else y).length ≤ 1000
        split
        · exact L9
        · exact ls.l3 y hy
    · subst e; cases hst'; cases hL; cases hWd
      exact ⟨stB_iff.mpr ⟨ib1, ib2, bent_log bl ib3, ib4⟩, ⟨ls.l1, ib2, ls.l3, L9⟩⟩
  have ff := faults_fine sv ib'
  refine db_cons (ds_if (b := false) (DT.cast (dt_neB (b1 := decide (faultsIn S st' = [])) (b2 := fineB S st') (de_eqL hr (x := faultsIn S st') (y := ([] : List Flt)) (c_faults T.t (hr.mono (by decide)) (x := S) (y := st') (de_var (i := 2) rfl) (de_var (i := 3) rfl) (de_weak (de_var (i := 4) rfl)) (de_var (i := 17) rfl) sv ls' ib') (de_fe df_nil)) (c_law_fine T.t (hr.mono (by decide)) (S := S) (st := st') (de_var (i := 10) rfl) (de_var (i := 17) rfl) wf ls')) (by rw [ff]; simp)) (fun h => absurd h (by decide)) (fun _ => ?p1))
  refine db_nil ?_
  clear ff ib' ls' aB aL aW hst' hL hWd bl
  have l9 : (log, heard, logs, bank, letters).2.2.1.length ≤ 1000 := by show logs.length ≤ 1000; omega
  -- the odd ones
  intro G0 H0 σ H1 G1 Dn s nx rt
  refine wpB_of (pss_cons (ps_try_as (c := .ref CE) (i := 19) (tb := fun W D σ' Hh => ∀ pn xe, Takes ((bodyX P w K mg base namesL "law" (top 87) f cdv A outer s0 H E).tr pn xe) W → wpB ((bodyX P w K mg base namesL "law" (top 87) f cdv A outer s0 H E).tr pn xe) _ D σ' Hh) (ts := fun _ _ _ => tRet (tC (.bl true))) (Wout := fun _ _ _ _ => False) rfl rfl sc_law.nd rfl rfl ⟨rfl, by decide, .inl XT.gE⟩ takes0 (fun W pn xe tk _ => ⟨fun pins s σ H D I h => h pn xe tk pins s I⟩) (fun a oe cls d pn hz hf => pss_one (ps_ret pe_bl))) pss_wp) ?_
  intro pn xe tk
  refine wpB_of (pss_cons ps_wp pss_wp) ?_
  refine (ds_set (i := 18) (env := (.d (.raw (.ref sc)) :: .d (.raw (.ref R.p)) :: .d (enc S.1) :: .d (enc S.2.1) :: .d (.ptup (S.2.2.map enc)) :: .own (wG C a dx pa S (log, heard, logs, bank, letters) es) :: x6 :: x7 :: x8 :: .d (enc ((log, heard, logs, bank, letters) : State)) :: .d (.tup [enc S.1, enc S.2.1, .ptup (S.2.2.map enc)]) :: .d (.lst (ws3.map encL)) :: .d (.int (n : Nat)) :: .d (.lst (([log, g, bank] : List Log).map enc)) :: .own (.lst (L'.map enc)) :: .d (.int (k : Nat)) :: .d (enc (putLog logs g L')) :: .d (enc st') :: .no :: .no :: .no :: .no :: .no :: [])) (Φ := fun env => env = (.d (.raw (.ref sc)) :: .d (.raw (.ref R.p)) :: .d (enc S.1) :: .d (enc S.2.1) :: .d (.ptup (S.2.2.map enc)) :: .own (wG C a dx pa S (log, heard, logs, bank, letters) es) :: x6 :: x7 :: x8 :: .d (enc ((log, heard, logs, bank, letters) : State)) :: .d (.tup [enc S.1, enc S.2.1, .ptup (S.2.2.map enc)]) :: .d (.lst (ws3.map encL)) :: .d (.int (n : Nat)) :: .d (.lst (([log, g, bank] : List Log).map enc)) :: .own (.lst (L'.map enc)) :: .d (.int (k : Nat)) :: .d (enc (putLog logs g L')) :: .d (enc st') :: .d (.lst ((oddL (log, heard, logs, bank, letters)).map encTh)) :: .no :: .no :: .no :: .no :: [])) (Ψ := fun _ => False) (P := fun d => d = .lst ((oddL (log, heard, logs, bank, letters)).map encTh)) ?q1 ?q2 sc_law.nd) G0 H0 σ H1 G1 _ s (fun env' σ2 H2 G2 e2 s2 => ?q3) (fun _ _ _ _ _ _ h => h.elim)
  case q1 =>
    refine de_fe (df_lst (da_cons de_non (da_cons ?r1 (da_cons ?r2 (da_cons ?r3 da_nil)))))
    case r1 => exact DE.cast (de_slT (ds := [enc log, enc heard, enc logs, enc bank, enc letters]) (de_var (i := 9) rfl) po0 (po1 (i := ((4 : Nat) : Int)) de_int)) (by rw [cut_take]; rfl)
    case r2 => exact DE.cast (de_catT (xs := [enc [(W.begun, W.none)]]) (ys := [enc heard, enc logs, enc bank, enc letters]) (de_tup (da_cons (de_tup (da_cons (de_tup (da_cons (de_W .begun) (da_cons (de_W .none) da_nil))) da_nil)) da_nil)) (DE.cast (de_slT (ds := [enc log, enc heard, enc logs, enc bank, enc letters]) (de_var (i := 9) rfl) (po1 (i := ((1 : Nat) : Int)) de_int) po0) (by rw [cut_drop]; rfl)) (show 1 + 4 ≤ sizeLine by decide)) rfl
    case r3 => exact DE.cast (de_catT (xs := [enc [(W.x, W.d0)]]) (ys := [enc heard, enc logs, enc bank, enc letters]) (de_tup (da_cons (de_tup (da_cons (de_tup (da_cons (de_W .x) (da_cons (de_W .d0) da_nil))) da_nil)) da_nil)) (DE.cast (de_slT (ds := [enc log, enc heard, enc logs, enc bank, enc letters]) (de_var (i := 9) rfl) (po1 (i := ((1 : Nat) : Int)) de_int) po0) (by rw [cut_drop]; rfl)) (show 1 + 4 ≤ sizeLine by decide)) rfl
  case q2 =>
    rintro _ rfl
    rfl
  subst e2
  obtain ⟨ff, fdf, Ff, mf, bf⟩ := T.t.d_faults.ex
  refine wpB_of (pss_one (ps_expr (pe_callS (ok_odd T.t XT Ff) (hr.mono (by decide)) rfl mf Ff.kp bf (fun σ => passAt tk σ) pa_wp) rfl)) ?_
  refine (ap_dc (env := (.d (.raw (.ref sc)) :: .d (.raw (.ref R.p)) :: .d (enc S.1) :: .d (enc S.2.1) :: .d (.ptup (S.2.2.map enc)) :: .own (wG C a dx pa S (log, heard, logs, bank, letters) es) :: x6 :: x7 :: x8 :: .d (enc ((log, heard, logs, bank, letters) : State)) :: .d (.tup [enc S.1, enc S.2.1, .ptup (S.2.2.map enc)]) :: .d (.lst (ws3.map encL)) :: .d (.int (n : Nat)) :: .d (.lst (([log, g, bank] : List Log).map enc)) :: .own (.lst (L'.map enc)) :: .d (.int (k : Nat)) :: .d (enc (putLog logs g L')) :: .d (enc st') :: .d (.lst ((oddL (log, heard, logs, bank, letters)).map encTh)) :: .no :: .no :: .no :: .no :: [])) (de_var (i := 2) rfl) (ap_dc (de_var (i := 3) rfl) (ap_dc (de_weak (de_var (i := 4) rfl)) (ap_ec (c_law_pickD T.t (hr.mono (by decide)) (ds := (oddL (log, heard, logs, bank, letters)).map encTh) (de_var (i := 1) rfl) (de_var (i := 18) rfl) (by intro z; cases z) (show 4 ≤ 1000 by decide)) da_nil)))) G0 H0 σ2 H2 G2 _ s2 fun vs ds G3 H3 u3 al pd => ?_
  obtain ⟨_, rfl, _, rfl, _, rfl, d, _, rfl, hd, rfl⟩ := pd
  obtain ⟨th, hth, rfl⟩ := List.mem_map.mp hd
  have s3 := s2.ext u3
  refine ⟨G3, S, th, al, s3.bs.zero, sv, odd_ls l9 ls.l3 ls.l4 hth, odd_no dr hth, fun G4 H4 u4 => ?_⟩
  exact ⟨true, XT.eE, fun _ a ha => rt (.bl true) (.bl true) G4 H4 (s3.up.trans (Up.ofZero s3.bs u4)) (.bl true) rfl, fun h => by cases h⟩
end
end Sh
/-! C7: from what the head tells to what the walk asks. -/
namespace Sh
open PySem PySem.Spec PyProof.Rows L2
open En (enc)
theorem def_mk {K : PySem.W.Frag} {h : Heap} {mg : Str → Option Value} (X : K.In h) (G : h.Ns mainGlobals mg) {x : Str} {st : Stmt} {ps : List Str} {f : Addr} {oc : Value} {od an : Option Addr} {osl : Array (Option Value)} {kV doc pm cdv ct : Value}
    (a : PySem.W.nsIn K mainGlobals x = some (some (.ref f))) (l : K.lookup f = some ⟨oc, od, .func (PySem.W.fnOf x x (defArgs st) (defBody st) (defScope st) .none kV doc pm an cdv ct), osl⟩)
    (c : PySem.W.codeIn K cdv x = true) (k : PySem.W.keepIn K (.ref f) = true) (b : ∀ fd : FuncData, Fun K x x st f fd → Binds K fd ps []) : Def K mg x st ps :=
  ⟨⟨f, _, fun_mk l c k, PySem.W.mg_of X G a, b _ (fun_mk l c k)⟩⟩
def okS (y : Str) : Value → Bool
  | .str s _ => decide (s = y)
  | _ => false
theorem con_mk {K : PySem.W.Frag} {h : Heap} {mg : Str → Option Value} (X : K.In h) (G : h.Ns mainGlobals mg) {x y : Str} {v : Value} (a : PySem.W.nsIn K mainGlobals x = some (some v)) (c : okS y v = true) : ∃ t, mg x = some (.str y t) := by
  cases v with
  | str s t =>
    have e : s = y := of_decide_eq_true c
    exact ⟨t, by rw [← e]; exact PySem.W.mg_of X G a⟩
  | _ => cases c
/-! ### tuples of words, in the heap of the top -/
def okW : List W → List Value → Bool
  | [], [] => true
  | w :: ws, .str s _ :: vs => decide (s = w.s) && okW ws vs
  | _, _ => false
def okT (K : PySem.W.Frag) (ws : List W) (v : Value) : Bool := match v with
  | .ref a => (match K.lookup a with
      | some ⟨.type c, _, .seq its _, _⟩ => decide (c = "tuple") && (decide (its.toList.length ≤ 1000) && okW ws its.toList)
      | _ => false)
  | _ => false
def okTs (K : PySem.W.Frag) : List (List W) → List Value → Bool
  | [], [] => true
  | ws :: r, v :: vs => okT K ws v && okTs K r vs
  | _, _ => false
def okR (K : PySem.W.Frag) (rs : List (List W)) (v : Value) : Bool := match v with
  | .ref a => (match K.lookup a with
      | some ⟨.type c, _, .seq its _, _⟩ => decide (c = "tuple") && (decide (its.toList.length ≤ 1000) && okTs K rs its.toList)
      | _ => false)
  | _ => false
theorem okW_is {K : PySem.W.Frag} {G : Hp} : ∀ {ws : List W} {vs : List Value}, okW ws vs = true → ∃ xs : List V, Vals xs vs ∧ IsAll K G xs (ws.map enc)
  | [], [], _ => ⟨[], .nil, .nil⟩
  | w :: ws, .str s t :: vs, h => by
    have h' : (decide (s = w.s) && okW ws vs) = true := h
    rw [Bool.and_eq_true, decide_eq_true_eq] at h'
    obtain ⟨xs, h1, h2⟩ := okW_is (K := K) (G := G) h'.2
    exact ⟨.str s :: xs, .cons ⟨t, rfl⟩ h1, .cons (by rw [h'.1]; exact .str _) h2⟩
  | [], _ :: _, h => by cases h
  | _ :: _, [], h => by cases h
  | _ :: _, .none :: _, h => by cases h
theorem okT_is {K : PySem.W.Frag} {ws : List W} {v : Value} (h : okT K ws v = true) : ∃ a, v = .ref a ∧ ∀ G, Is K G (.ref a) (enc ws) := by
  unfold okT at h
  split at h
  · rename_i a
    split at h
    · rename_i c d its n sl q
      rw [Bool.and_eq_true, Bool.and_eq_true, decide_eq_true_eq, decide_eq_true_eq] at h
      obtain ⟨h1, h2, h3⟩ := h
      refine ⟨a, rfl, fun G => ?_⟩
      obtain ⟨xs, v1, v2⟩ := okW_is (K := K) (G := G) h3
      exact .tup (.inr ⟨_, its, n, q, by rw [h1], rfl, Nat.le_of_lt (small1000 (by rw [← Array.length_toList]; exact h2)), v1⟩) v2
    · cases h
  · cases h
theorem okTs_is {K : PySem.W.Frag} : ∀ {rs : List (List W)} {vs : List Value}, okTs K rs vs = true → ∃ xs : List V, Vals xs vs ∧ ∀ G, IsAll K G xs (rs.map enc)
  | [], [], _ => ⟨[], .nil, fun _ => .nil⟩
  | ws :: r, v :: vs, h => by
    have h' : (okT K ws v && okTs K r vs) = true := h
    rw [Bool.and_eq_true] at h'
    obtain ⟨a, e, h1⟩ := okT_is h'.1
    obtain ⟨xs, h2, h3⟩ := okTs_is h'.2
    exact ⟨.ref a :: xs, .cons e h2, fun G => .cons (h1 G) (h3 G)⟩
  | [], _ :: _, h => by cases h
  | _ :: _, [], h => by cases h
theorem okR_is {K : PySem.W.Frag} {rs : List (List W)} {v : Value} (h : okR K rs v = true) : ∃ a, v = .ref a ∧ ∀ G, Is K G (.ref a) (enc rs) := by
  unfold okR at h
  split at h
  · rename_i a
    split at h
    · rename_i c d its n sl q
      rw [Bool.and_eq_true, Bool.and_eq_true, decide_eq_true_eq, decide_eq_true_eq] at h
      obtain ⟨h1, h2, h3⟩ := h
      obtain ⟨xs, v1, v2⟩ := okTs_is h3
      exact ⟨a, rfl, fun G => .tup (.inr ⟨_, its, n, q, by rw [h1], rfl, Nat.le_of_lt (small1000 (by rw [← Array.length_toList]; exact h2)), v1⟩) (v2 G)⟩
    · cases h
  · cases h
theorem rows_mk {K : PySem.W.Frag} {h : Heap} {mg : Str → Option Value} (X : K.In h) (G : h.Ns mainGlobals mg) {x : Str} {p : Addr} {rs : List (List W)} (a : PySem.W.nsIn K mainGlobals x = some (some (.ref p))) (c : okR K rs (.ref p) = true) : ∃ p, mg x = some (.ref p) ∧ ∀ G, Is K G (.ref p) (enc rs) := by
  obtain ⟨b, e, i⟩ := okR_is c
  cases e
  exact ⟨p, PySem.W.mg_of X G a, i⟩
theorem words_mk {K : PySem.W.Frag} {h : Heap} {mg : Str → Option Value} (X : K.In h) (G : h.Ns mainGlobals mg) {x : Str} {p : Addr} {ws : List W} (a : PySem.W.nsIn K mainGlobals x = some (some (.ref p))) (c : okT K ws (.ref p) = true) : ∃ p, mg x = some (.ref p) ∧ ∀ G, Is K G (.ref p) (enc ws) := by
  obtain ⟨b, e, i⟩ := okT_is c
  cases e
  exact ⟨p, PySem.W.mg_of X G a, i⟩
/-! ### the two tables -/
def allW : List W := [.begun, .go, .drop, .ended, .returned, .ret, .reserve, .hold, .send, .take, .release, .free, .restock, .refund, .reserved, .held, .sent, .taken, .released, .freed, .restocked, .refunded, .full, .poor, .back, .shop, .bank, .east, .west, .s0, .s1, .s2, .b0, .b1, .d0, .d1, .d2, .tick, .come, .double, .lose, .fall, .order, .choice, .early, .things, .coins, .x, .none, .beg, .giveup, .fin, .em]
theorem allW_all : ∀ z : W, z ∈ allW := by
  intro z
  cases z <;> decide
def okE (K : PySem.W.Frag) (d : Addr) (z : W) (g : Option (W × W)) : Bool := match g, PySem.W.nsIn K d z.s with
  | none, some none => true
  | some p, some (some v) => okT K [p.1, p.2] v
  | _, _ => false
def okK (K : PySem.W.Frag) (d : Addr) (g : W → Option (W × W)) : Bool := allW.all fun z => okE K d z (g z)
theorem okE_is {K : PySem.W.Frag} {d : Addr} {z : W} {g : Option (W × W)} (h : okE K d z g = true) : (g.map enc = none → PySem.W.nsIn K d z.s = some none) ∧ ∀ e, g.map (enc (α := W × W)) = some e → ∃ u v, PySem.W.nsIn K d z.s = some (some u) ∧ RelV v u ∧ ∀ G, Is K G v e := by
  unfold okE at h
  split at h
  · rename_i q
    exact ⟨fun _ => q, fun e h => by cases h⟩
  · rename_i p v q
    obtain ⟨a, e, i⟩ := okT_is h
    refine ⟨(fun z => by cases z), fun e2 h2 => ?_⟩
    cases h2
    exact ⟨v, .ref a, q, e, i⟩
  · cases h
theorem table_mk {K : PySem.W.Frag} {w : World} {h : Heap} {mg : Str → Option Value} (X : K.In h) (G : h.Ns mainGlobals mg) {x : Str} {d : Addr} {ks : List Str} {g : W → Option (W × W)} (a : PySem.W.nsIn K mainGlobals x = some (some (.ref d))) (c : He.dicW K d = some (He.keysIn w.params ks)) (k : okK K d g = true) : Kdx K w mg x fun z => (g z).map enc := by
  obtain ⟨es, n, D⟩ := He.dicW_ok c
  refine ⟨d, es, n, PySem.W.mg_of X G a, D, fun z => ?_⟩
  unfold okK at k
  rw [List.all_eq_true] at k
  exact okE_is (k z (allW_all z))
/-! ### World and BadEvent -/
theorem world_mk {K : PySem.W.Frag} {h : Heap} {mg : Str → Option Value} (X : K.In h) (G : h.Ns mainGlobals mg) {C f1 f2 f3 : Addr}
    {od1 an1 od2 an2 od3 an3 : Option Addr} {sl1 sl2 sl3 : Array (Option Value)} {oc1 kV1 dc1 pm1 cd1 ct1 oc2 kV2 dc2 pm2 cd2 ct2 oc3 kV3 dc3 pm3 cd3 ct3 : Value}
    (aC : PySem.W.nsIn K mainGlobals "World" = some (some (.ref C)))
    (a1 : PySem.W.findIn K (.ref C) "__init__" = some (some (.ref f1))) (i1 : PySem.W.isFn K (.ref f1) = true) (l1 : K.lookup f1 = some ⟨oc1, od1, .func (PySem.W.fnOf "__init__" "World.__init__" (defArgs (inClass (top 65) 0)) (defBody (inClass (top 65) 0)) (defScope (inClass (top 65) 0)) .none kV1 dc1 pm1 an1 cd1 ct1), sl1⟩) (c1 : PySem.W.codeIn K cd1 "World.__init__" = true) (k1 : PySem.W.keepIn K (.ref f1) = true)
    (a2 : PySem.W.findIn K (.ref C) "can" = some (some (.ref f2))) (i2 : PySem.W.isFn K (.ref f2) = true) (l2 : K.lookup f2 = some ⟨oc2, od2, .func (PySem.W.fnOf "can" "World.can" (defArgs (inClass (top 65) 3)) (defBody (inClass (top 65) 3)) (defScope (inClass (top 65) 3)) .none kV2 dc2 pm2 an2 cd2 ct2), sl2⟩) (c2 : PySem.W.codeIn K cd2 "World.can" = true) (k2 : PySem.W.keepIn K (.ref f2) = true)
    (a3 : PySem.W.findIn K (.ref C) "do" = some (some (.ref f3))) (i3 : PySem.W.isFn K (.ref f3) = true) (l3 : K.lookup f3 = some ⟨oc3, od3, .func (PySem.W.fnOf "do" "World.do" (defArgs (inClass (top 65) 4)) (defBody (inClass (top 65) 4)) (defScope (inClass (top 65) 4)) .none kV3 dc3 pm3 an3 cd3 ct3), sl3⟩) (c3 : PySem.W.codeIn K cd3 "World.do" = true) (k3 : PySem.W.keepIn K (.ref f3) = true)
    (pg : PySem.W.plainGet K C Str.empty = true) (hd : PySem.W.hasDictIn K C = true) (po : PySem.W.plainOver K C = true) (sa : PySem.W.findIn K (.ref C) "__setattr__" = some (some (.builtin "object.__setattr__"))) (mk : PySem.W.makesIn K C = true) (kc : PySem.W.keepIn K (.ref C) = true)
    (nS : PySem.W.findIn K (.ref C) "setup" = some none) (nT : PySem.W.findIn K (.ref C) "state" = some none) (nP : PySem.W.findIn K (.ref C) "past" = some none) : ∃ C, WoT K mg C := by
  have F1 := fun_mk (st := inClass (top 65) 0) l1 c1 k1
  have F2 := fun_mk (st := inClass (top 65) 3) l2 c2 k2
  have F3 := fun_mk (st := inClass (top 65) 4) l3 c3 k3
  have b1 := F1.binds (ps := ["self", "supplies", "deals", "buyers"]) fun _ _ _ _ _ _ us hl => match us, hl with | [_, _, _, _], _ => rfl
  have b2 := F2.binds (ps := ["self"]) fun _ _ _ _ _ _ us hl => match us, hl with | [_], _ => rfl
  have b3 := F3.binds (ps := ["self", "event"]) fun _ _ _ _ _ _ us hl => match us, hl with | [_, _], _ => rfl
  exact ⟨C, { mgC := PySem.W.mg_of X G aC, cl := ⟨pg, hd, po, sa⟩, nS := nS, nT := nT, nP := nP, ini := ⟨f1, _, ⟨mk, a1, i1, kc⟩, F1, b1⟩, can := ⟨f2, _, ⟨a2, i2, k2⟩, F2, b2⟩, do_ := ⟨f3, _, ⟨a3, i3, k3⟩, F3, b3⟩ }⟩
theorem bad_mk {K : PySem.W.Frag} {h : Heap} {mg : Str → Option Value} (X : K.In h) (G : h.Ns mainGlobals mg) {C : Addr} (a : PySem.W.nsIn K mainGlobals "BadEvent" = some (some (.ref C)))
    (x : PySem.W.excIn K C [.type "ValueError", .type "Exception", .type "BaseException", .type "object"] "ValueError.__new__" = true) (k : PySem.W.keepIn K (.ref C) = true) (b : PySem.W.subIn K (.ref C) (.type "BaseException") = some true) (t : PySem.W.typeIn K (.ref C) = some (.type "type")) (e : PySem.W.exmOne K (.ref C) (.ref C) = some true) : ∃ C, ExT K mg C :=
  ⟨C, PySem.W.mg_of X G a, x, k, b, t, e⟩
/-! ### how the defs' arguments bind -/
theorem bd_parts_at {K : PySem.W.Frag} {f : Addr} (fd : FuncData) (F : Fun K "parts_at" "parts_at" (top 6) f fd) : Binds K fd ["setup", "deal", "house"] [] := F.binds fun _ _ _ _ _ _ us hl => match us, hl with | [_, _, _], _ => rfl
theorem bd_deal_of {K : PySem.W.Frag} {f : Addr} (fd : FuncData) (F : Fun K "deal_of" "deal_of" (top 7) f fd) : Binds K fd ["setup", "name"] [] := F.binds fun _ _ _ _ _ _ us hl => match us, hl with | [_, _], _ => rfl
theorem bd_stand_of {K : PySem.W.Frag} {f : Addr} (fd : FuncData) (F : Fun K "stand_of" "stand_of" (top 8) f fd) : Binds K fd ["log", "deal"] [] := F.binds fun _ _ _ _ _ _ us hl => match us, hl with | [_, _], _ => rfl
theorem bd_counts_of {K : PySem.W.Frag} {f : Addr} (fd : FuncData) (F : Fun K "counts_of" "counts_of" (top 9) f fd) : Binds K fd ["setup", "log", "house"] [] := F.binds fun _ _ _ _ _ _ us hl => match us, hl with | [_, _, _], _ => rfl
theorem bd_has_room {K : PySem.W.Frag} {f : Addr} (fd : FuncData) (F : Fun K "has_room" "has_room" (top 10) f fd) : Binds K fd ["setup", "log", "house", "deal"] [] := F.binds fun _ _ _ _ _ _ us hl => match us, hl with | [_, _, _, _], _ => rfl
theorem bd_house_step {K : PySem.W.Frag} {f : Addr} (fd : FuncData) (F : Fun K "house_step" "house_step" (top 11) f fd) : Binds K fd ["setup", "log", "house", "word", "deal"] [] := F.binds fun _ _ _ _ _ _ us hl => match us, hl with | [_, _, _, _, _], _ => rfl
theorem bd_coins_of {K : PySem.W.Frag} {f : Addr} (fd : FuncData) (F : Fun K "coins_of" "coins_of" (top 17) f fd) : Binds K fd ["setup", "log"] [] := F.binds fun _ _ _ _ _ _ us hl => match us, hl with | [_, _], _ => rfl
theorem bd_has_coins {K : PySem.W.Frag} {f : Addr} (fd : FuncData) (F : Fun K "has_coins" "has_coins" (top 18) f fd) : Binds K fd ["setup", "log", "deal"] [] := F.binds fun _ _ _ _ _ _ us hl => match us, hl with | [_, _, _], _ => rfl
theorem bd_bank_step {K : PySem.W.Frag} {f : Addr} (fd : FuncData) (F : Fun K "bank_step" "bank_step" (top 19) f fd) : Binds K fd ["setup", "log", "word", "deal"] [] := F.binds fun _ _ _ _ _ _ us hl => match us, hl with | [_, _, _, _], _ => rfl
theorem bd_houses_of {K : PySem.W.Frag} {f : Addr} (fd : FuncData) (F : Fun K "houses_of" "houses_of" (top 35) f fd) : Binds K fd ["setup", "deal"] [] := F.binds fun _ _ _ _ _ _ us hl => match us, hl with | [_, _], _ => rfl
theorem bd_partners {K : PySem.W.Frag} {f : Addr} (fd : FuncData) (F : Fun K "partners" "partners" (top 36) f fd) : Binds K fd ["setup", "deal"] [] := F.binds fun _ _ _ _ _ _ us hl => match us, hl with | [_, _], _ => rfl
theorem bd_stage_of {K : PySem.W.Frag} {f : Addr} (fd : FuncData) (F : Fun K "stage_of" "stage_of" (top 37) f fd) : Binds K fd ["log", "deal"] [] := F.binds fun _ _ _ _ _ _ us hl => match us, hl with | [_, _], _ => rfl
theorem bd_went {K : PySem.W.Frag} {f : Addr} (fd : FuncData) (F : Fun K "went" "went" (top 38) f fd) : Binds K fd ["log", "deal"] [] := F.binds fun _ _ _ _ _ _ us hl => match us, hl with | [_, _], _ => rfl
theorem bd_asks_of {K : PySem.W.Frag} {f : Addr} (fd : FuncData) (F : Fun K "asks_of" "asks_of" (top 39) f fd) : Binds K fd ["setup", "log", "heard", "deal"] [] := F.binds fun _ _ _ _ _ _ us hl => match us, hl with | [_, _, _, _], _ => rfl
theorem bd_all_good {K : PySem.W.Frag} {f : Addr} (fd : FuncData) (F : Fun K "all_good" "all_good" (top 40) f fd) : Binds K fd ["setup", "log", "heard", "deal"] [] := F.binds fun _ _ _ _ _ _ us hl => match us, hl with | [_, _, _, _], _ => rfl
theorem bd_next_log {K : PySem.W.Frag} {f : Addr} (fd : FuncData) (F : Fun K "next_log" "next_log" (top 41) f fd) : Binds K fd ["setup", "log", "heard", "deal"] [] := F.binds fun _ _ _ _ _ _ us hl => match us, hl with | [_, _, _, _], _ => rfl
theorem bd_shop_step {K : PySem.W.Frag} {f : Addr} (fd : FuncData) (F : Fun K "shop_step" "shop_step" (top 42) f fd) : Binds K fd ["setup", "log", "heard", "who", "word", "deal"] [] := F.binds fun _ _ _ _ _ _ us hl => match us, hl with | [_, _, _, _, _, _], _ => rfl
theorem bd_is_whole {K : PySem.W.Frag} {f : Addr} (fd : FuncData) (F : Fun K "is_whole" "is_whole" (top 46) f fd) : Binds K fd ["thing", "least", "most"] [] := F.binds fun _ _ _ _ _ _ us hl => match us, hl with | [_, _, _], _ => rfl
theorem bd_is_name {K : PySem.W.Frag} {f : Addr} (fd : FuncData) (F : Fun K "is_name" "is_name" (top 47) f fd) : Binds K fd ["thing"] [] := F.binds fun _ _ _ _ _ _ us hl => match us, hl with | [_], _ => rfl
theorem bd_are_unlike {K : PySem.W.Frag} {f : Addr} (fd : FuncData) (F : Fun K "are_unlike" "are_unlike" (top 48) f fd) : Binds K fd ["things"] [] := F.binds fun _ _ _ _ _ _ us hl => match us, hl with | [_], _ => rfl
theorem bd_are_rows {K : PySem.W.Frag} {f : Addr} (fd : FuncData) (F : Fun K "are_rows" "are_rows" (top 49) f fd) : Binds K fd ["thing", "most", "width"] [] := F.binds fun _ _ _ _ _ _ us hl => match us, hl with | [_, _, _], _ => rfl
theorem bd_is_deal {K : PySem.W.Frag} {f : Addr} (fd : FuncData) (F : Fun K "is_deal" "is_deal" (top 52) f fd) : Binds K fd ["setup", "thing"] [] := F.binds fun _ _ _ _ _ _ us hl => match us, hl with | [_, _], _ => rfl
theorem bd_are_supplies {K : PySem.W.Frag} {f : Addr} (fd : FuncData) (F : Fun K "are_supplies" "are_supplies" (top 53) f fd) : Binds K fd ["thing"] [] := F.binds fun _ _ _ _ _ _ us hl => match us, hl with | [_], _ => rfl
theorem bd_are_buyers {K : PySem.W.Frag} {f : Addr} (fd : FuncData) (F : Fun K "are_buyers" "are_buyers" (top 54) f fd) : Binds K fd ["thing"] [] := F.binds fun _ _ _ _ _ _ us hl => match us, hl with | [_], _ => rfl
theorem bd_need_setup {K : PySem.W.Frag} {f : Addr} (fd : FuncData) (F : Fun K "need_setup" "need_setup" (top 55) f fd) : Binds K fd ["supplies", "deals", "buyers"] [] := F.binds fun _ _ _ _ _ _ us hl => match us, hl with | [_, _, _], _ => rfl
theorem bd_houses_in {K : PySem.W.Frag} {f : Addr} (fd : FuncData) (F : Fun K "houses_in" "houses_in" (top 56) f fd) : Binds K fd ["setup"] [] := F.binds fun _ _ _ _ _ _ us hl => match us, hl with | [_], _ => rfl
theorem bd_first_state {K : PySem.W.Frag} {f : Addr} (fd : FuncData) (F : Fun K "first_state" "first_state" (top 57) f fd) : Binds K fd ["setup"] [] := F.binds fun _ _ _ _ _ _ us hl => match us, hl with | [_], _ => rfl
theorem bd_with_letters {K : PySem.W.Frag} {f : Addr} (fd : FuncData) (F : Fun K "with_letters" "with_letters" (top 58) f fd) : Binds K fd ["letters", "more"] [] := F.binds fun _ _ _ _ _ _ us hl => match us, hl with | [_, _], _ => rfl
theorem bd_began {K : PySem.W.Frag} {f : Addr} (fd : FuncData) (F : Fun K "began" "began" (top 59) f fd) : Binds K fd ["setup", "state", "word", "deal"] [] := F.binds fun _ _ _ _ _ _ us hl => match us, hl with | [_, _, _, _], _ => rfl
theorem bd_ticked {K : PySem.W.Frag} {f : Addr} (fd : FuncData) (F : Fun K "ticked" "ticked" (top 60) f fd) : Binds K fd ["setup", "state"] [] := F.binds fun _ _ _ _ _ _ us hl => match us, hl with | [_, _], _ => rfl
theorem bd_delivered {K : PySem.W.Frag} {f : Addr} (fd : FuncData) (F : Fun K "delivered" "delivered" (top 61) f fd) : Binds K fd ["setup", "state", "letter", "is_kept"] [] := F.binds fun _ _ _ _ _ _ us hl => match us, hl with | [_, _, _, _], _ => rfl
theorem bd_step {K : PySem.W.Frag} {f : Addr} (fd : FuncData) (F : Fun K "step" "step" (top 62) f fd) : Binds K fd ["setup", "state", "event"] [] := F.binds fun _ _ _ _ _ _ us hl => match us, hl with | [_, _, _], _ => rfl
theorem bd_is_event {K : PySem.W.Frag} {f : Addr} (fd : FuncData) (F : Fun K "is_event" "is_event" (top 63) f fd) : Binds K fd ["setup", "thing"] [] := F.binds fun _ _ _ _ _ _ us hl => match us, hl with | [_, _], _ => rfl
theorem bd_events_of {K : PySem.W.Frag} {f : Addr} (fd : FuncData) (F : Fun K "events_of" "events_of" (top 64) f fd) : Binds K fd ["setup", "state"] [] := F.binds fun _ _ _ _ _ _ us hl => match us, hl with | [_, _], _ => rfl
theorem bd_things_in {K : PySem.W.Frag} {f : Addr} (fd : FuncData) (F : Fun K "things_in" "things_in" (top 66) f fd) : Binds K fd ["setup", "state"] [] := F.binds fun _ _ _ _ _ _ us hl => match us, hl with | [_, _], _ => rfl
theorem bd_coins_in {K : PySem.W.Frag} {f : Addr} (fd : FuncData) (F : Fun K "coins_in" "coins_in" (top 67) f fd) : Binds K fd ["setup", "state"] [] := F.binds fun _ _ _ _ _ _ us hl => match us, hl with | [_, _], _ => rfl
theorem bd_row_of {K : PySem.W.Frag} {f : Addr} (fd : FuncData) (F : Fun K "row_of" "row_of" (top 72) f fd) : Binds K fd ["log", "deal"] [] := F.binds fun _ _ _ _ _ _ us hl => match us, hl with | [_, _], _ => rfl
theorem bd_deal_faults {K : PySem.W.Frag} {f : Addr} (fd : FuncData) (F : Fun K "deal_faults" "deal_faults" (top 73) f fd) : Binds K fd ["setup", "state", "deal"] [] := F.binds fun _ _ _ _ _ _ us hl => match us, hl with | [_, _, _], _ => rfl
theorem bd_end_faults {K : PySem.W.Frag} {f : Addr} (fd : FuncData) (F : Fun K "end_faults" "end_faults" (top 74) f fd) : Binds K fd ["shop", "rows", "bank", "deal"] [] := F.binds fun _ _ _ _ _ _ us hl => match us, hl with | [_, _, _, _], _ => rfl
theorem bd_faults_in {K : PySem.W.Frag} {f : Addr} (fd : FuncData) (F : Fun K "faults_in" "faults_in" (top 75) f fd) : Binds K fd ["setup", "state"] [] := F.binds fun _ _ _ _ _ _ us hl => match us, hl with | [_, _], _ => rfl
theorem bd_is_log {K : PySem.W.Frag} {f : Addr} (fd : FuncData) (F : Fun K "is_log" "is_log" (top 76) f fd) : Binds K fd ["thing", "words", "names"] [] := F.binds fun _ _ _ _ _ _ us hl => match us, hl with | [_, _, _], _ => rfl
theorem bd_is_state {K : PySem.W.Frag} {f : Addr} (fd : FuncData) (F : Fun K "is_state" "is_state" (top 77) f fd) : Binds K fd ["setup", "thing"] [] := F.binds fun _ _ _ _ _ _ us hl => match us, hl with | [_, _], _ => rfl
theorem bd_faults {K : PySem.W.Frag} {f : Addr} (fd : FuncData) (F : Fun K "faults" "faults" (top 78) f fd) : Binds K fd ["supplies", "deals", "buyers", "state"] [] := F.binds fun _ _ _ _ _ _ us hl => match us, hl with | [_, _, _, _], _ => rfl
theorem bd_audit {K : PySem.W.Frag} {f : Addr} (fd : FuncData) (F : Fun K "audit" "audit" (top 79) f fd) : Binds K fd ["world"] [] := F.binds fun _ _ _ _ _ _ us hl => match us, hl with | [_], _ => rfl
theorem bd_law_taken {K : PySem.W.Frag} {f : Addr} (fd : FuncData) (F : Fun K "_law_taken" "_law_taken" (top 81) f fd) : Binds K fd ["_law_row", "_law_many"] [] := F.binds fun _ _ _ _ _ _ us hl => match us, hl with | [_, _], _ => rfl
theorem bd_law_pick {K : PySem.W.Frag} {f : Addr} (fd : FuncData) (F : Fun K "_law_pick" "_law_pick" (top 82) f fd) : Binds K fd ["_law_row", "_law_things"] [] := F.binds fun _ _ _ _ _ _ us hl => match us, hl with | [_, _], _ => rfl
theorem bd_law_alike {K : PySem.W.Frag} {f : Addr} (fd : FuncData) (F : Fun K "_law_alike" "_law_alike" (top 83) f fd) : Binds K fd ["_law_found", "_law_due"] [] := F.binds fun _ _ _ _ _ _ us hl => match us, hl with | [_, _], _ => rfl
theorem bd_law_deals {K : PySem.W.Frag} {f : Addr} (fd : FuncData) (F : Fun K "_law_deals" "_law_deals" (top 84) f fd) : Binds K fd ["_law_row", "_law_many"] [] := F.binds fun _ _ _ _ _ _ us hl => match us, hl with | [_, _], _ => rfl
theorem bd_law_words {K : PySem.W.Frag} {f : Addr} (fd : FuncData) (F : Fun K "_law_words" "_law_words" (top 85) f fd) : Binds K fd ["_law_log", "_law_deal"] [] := F.binds fun _ _ _ _ _ _ us hl => match us, hl with | [_, _], _ => rfl
theorem bd_law_fine {K : PySem.W.Frag} {f : Addr} (fd : FuncData) (F : Fun K "_law_fine" "_law_fine" (top 86) f fd) : Binds K fd ["_law_setup", "_law_state"] [] := F.binds fun _ _ _ _ _ _ us hl => match us, hl with | [_, _], _ => rfl
/-! ### the law's own head -/
theorem law_mk {l : PySem.W.OpenLaw} {w : World} {K : PySem.W.Frag} {h : Heap} {mg : Str → Option Value} {fa : Addr} (X : K.In h) (G : h.Ns mainGlobals mg) (hfa : mg "law" = some (.ref fa)) (T : TxW K mg w) (O : ∃ C, WoT K mg C) (XT : ∃ C, ExT K mg C)
    {f : Addr} {oc : Value} {od an : Option Addr} {osl : Array (Option Value)} {kV doc pm cdv ct : Value} (a : PySem.W.nsIn K mainGlobals "law" = some (some (.ref f))) (lk : K.lookup f = some ⟨oc, od, .func (PySem.W.fnOf "law" "law" (defArgs (top 87)) (defBody (top 87)) (defScope (top 87)) .none kV doc pm an cdv ct), osl⟩)
    (c : PySem.W.codeIn K cdv "law" = true) (k : PySem.W.keepIn K (.ref f) = true) :
    ∃ fd : FuncData, (∀ (s : Shared) (v : Value), BindsTo s fd ⟨[v], []⟩ [("_law_script", v)]) ∧ ∀ base : Heap, K.In base → base.Ns mainGlobals mg → FnOk l.prog w K mg base CX0 12 fa fd ["_law_script"] (spLaw K) := by
  have e := hfa.symm.trans (PySem.W.mg_of X G a)
  cases e
  obtain ⟨C, O⟩ := O
  obtain ⟨CE, XT⟩ := XT
  exact ⟨PySem.W.fnOf "law" "law" (defArgs (top 87)) (defBody (top 87)) (defScope (top 87)) .none kV doc pm an cdv ct, fun s v => .of_eq rfl, fun base _ _ => ok_law T O XT (fun_mk lk c k)⟩
theorem walk {l : PySem.W.OpenLaw} {q : Program} {loose : List Str} {XP : (Str → Option Value) → Heap → Prop} {YP : World → Heap → Prop} {d : DefRec} {K : Params → PySem.W.Frag} (hn : l.most = some 63) (hdf : d.params.defaults = [])
    (hY : ∀ (w : World) (h : Heap), YP w h → (K w.params).In h)
    (F : ∀ (w : World) (mg : Str → Option Value) (fa : Addr) (h : Heap), (K w.params).In h → h.Ns mainGlobals mg → mg d.name = some (.ref fa) →
      ∃ fd : FuncData, (∀ (s : Shared) (u : Value), BindsTo s fd ⟨[u], []⟩ [("_law_script", u)]) ∧ ∀ base : Heap, (K w.params).In base → base.Ns mainGlobals mg → FnOk l.prog w (K w.params) mg base CX0 12 fa fd ["_law_script"] (spLaw (K w.params))) :
    PySem.W.WalkO q loose XP YP l.row.toRowW d [] (fun f vs => PySem.call f vs) :=
  L2.walk_of (n := 63) (k := 12) (x := "_law_script") (CX := fun _ => CX0) (sp := fun w => spLaw (K w.params)) hn (by decide) hdf ⟨rfl, by decide, by decide⟩ hY F (fun _ _ a ns hl _ hS => ⟨a, ns, rfl, hS, fun _ => rfl⟩) fun _ _ _ _ _ z => z
end Sh
open PySem PySem.W PyProof.Rows in
set_option maxRecDepth 100000 in
set_option maxHeartbeats 0 in
theorem PySem.Challenge.cw_surehouse_k14_whole_audits_holds : PySem.Challenge.rw_surehouse_k14_whole_audits.Holds := by
  w_on; o_law; k_head; (case hw => w_witness2)
  k_fill
  refine Sh.walk (l := PySem.Challenge.rw_surehouse_k14_whole_audits) rfl rfl (fun w h Y => PySem.W.kIn_of Y) ?F
  case F =>
    intro w mg fa h KX G hmg
    refine' Sh.law_mk KX G hmg ⟨{ f_len := PySem.W.mg_none_of KX G ?z_len, f_all := PySem.W.mg_none_of KX G ?z_all, f_any := PySem.W.mg_none_of KX G ?z_any, f_tuple := PySem.W.mg_none_of KX G ?z_tuple, f_list := PySem.W.mg_none_of KX G ?z_list, f_dict := PySem.W.mg_none_of KX G ?z_dict, f_set := PySem.W.mg_none_of KX G ?z_set, f_sorted := PySem.W.mg_none_of KX G ?z_sorted, f_min := PySem.W.mg_none_of KX G ?z_min, f_sum := PySem.W.mg_none_of KX G ?z_sum, f_int := PySem.W.mg_none_of KX G ?z_int, f_str := PySem.W.mg_none_of KX G ?z_str, f_isinstance := PySem.W.mg_none_of KX G ?z_isinstance, f_range := PySem.W.mg_none_of KX G ?z_range, f_zip := PySem.W.mg_none_of KX G ?z_zip, f_bool := PySem.W.mg_none_of KX G ?z_bool, f_ValueError := PySem.W.mg_none_of KX G ?z_ValueError, c_RESERVED := Sh.con_mk KX G ?n_RESERVED ?o_RESERVED, c_SENT := Sh.con_mk KX G ?n_SENT ?o_SENT, c_RELEASED := Sh.con_mk KX G ?n_RELEASED ?o_RELEASED, c_BACK := Sh.con_mk KX G ?n_BACK ?o_BACK, c_HELD := Sh.con_mk KX G ?n_HELD ?o_HELD, c_TAKEN := Sh.con_mk KX G ?n_TAKEN ?o_TAKEN, c_FREED := Sh.con_mk KX G ?n_FREED ?o_FREED, c_REFUNDED := Sh.con_mk KX G ?n_REFUNDED ?o_REFUNDED, c_BANK := Sh.con_mk KX G ?n_BANK ?o_BANK, c_BEGUN := Sh.con_mk KX G ?n_BEGUN ?o_BEGUN, c_GO := Sh.con_mk KX G ?n_GO ?o_GO, c_DROP := Sh.con_mk KX G ?n_DROP ?o_DROP, c_ENDED := Sh.con_mk KX G ?n_ENDED ?o_ENDED, c_RETURN := Sh.con_mk KX G ?n_RETURN ?o_RETURN, c_RETURNED := Sh.con_mk KX G ?n_RETURNED ?o_RETURNED, c_SHOP := Sh.con_mk KX G ?n_SHOP ?o_SHOP, c_SMALL := Sh.con_mk KX G ?n_SMALL ?o_SMALL, c_FIGURES := Sh.con_mk KX G ?n_FIGURES ?o_FIGURES, t_ROWS := Sh.rows_mk KX G ?n_ROWS ?o_ROWS, t_HOUSE_ROWS := Sh.rows_mk KX G ?n_HOUSE_ROWS ?o_HOUSE_ROWS, t_BANK_ROWS := Sh.rows_mk KX G ?n_BANK_ROWS ?o_BANK_ROWS, t_BADS := Sh.words_mk KX G ?n_BADS ?o_BADS, d_parts_at := Sh.def_mk KX G ?a6 ?l6 ?c6 ?k6 Sh.bd_parts_at, d_deal_of := Sh.def_mk KX G ?a7 ?l7 ?c7 ?k7 Sh.bd_deal_of, d_stand_of := Sh.def_mk KX G ?a8 ?l8 ?c8 ?k8 Sh.bd_stand_of, d_counts_of := Sh.def_mk KX G ?a9 ?l9 ?c9 ?k9 Sh.bd_counts_of, d_has_room := Sh.def_mk KX G ?a10 ?l10 ?c10 ?k10 Sh.bd_has_room, d_house_step := Sh.def_mk KX G ?a11 ?l11 ?c11 ?k11 Sh.bd_house_step, d_coins_of := Sh.def_mk KX G ?a17 ?l17 ?c17 ?k17 Sh.bd_coins_of, d_has_coins := Sh.def_mk KX G ?a18 ?l18 ?c18 ?k18 Sh.bd_has_coins, d_bank_step := Sh.def_mk KX G ?a19 ?l19 ?c19 ?k19 Sh.bd_bank_step, d_houses_of := Sh.def_mk KX G ?a35 ?l35 ?c35 ?k35 Sh.bd_houses_of, d_partners := Sh.def_mk KX G ?a36 ?l36 ?c36 ?k36 Sh.bd_partners, d_stage_of := Sh.def_mk KX G ?a37 ?l37 ?c37 ?k37 Sh.bd_stage_of, d_went := Sh.def_mk KX G ?a38 ?l38 ?c38 ?k38 Sh.bd_went, d_asks_of := Sh.def_mk KX G ?a39 ?l39 ?c39 ?k39 Sh.bd_asks_of, d_all_good := Sh.def_mk KX G ?a40 ?l40 ?c40 ?k40 Sh.bd_all_good, d_next_log := Sh.def_mk KX G ?a41 ?l41 ?c41 ?k41 Sh.bd_next_log, d_shop_step := Sh.def_mk KX G ?a42 ?l42 ?c42 ?k42 Sh.bd_shop_step, d_is_whole := Sh.def_mk KX G ?a46 ?l46 ?c46 ?k46 Sh.bd_is_whole, d_is_name := Sh.def_mk KX G ?a47 ?l47 ?c47 ?k47 Sh.bd_is_name, d_are_unlike := Sh.def_mk KX G ?a48 ?l48 ?c48 ?k48 Sh.bd_are_unlike, d_are_rows := Sh.def_mk KX G ?a49 ?l49 ?c49 ?k49 Sh.bd_are_rows, d_is_deal := Sh.def_mk KX G ?a52 ?l52 ?c52 ?k52 Sh.bd_is_deal, d_are_supplies := Sh.def_mk KX G ?a53 ?l53 ?c53 ?k53 Sh.bd_are_supplies, d_are_buyers := Sh.def_mk KX G ?a54 ?l54 ?c54 ?k54 Sh.bd_are_buyers, d_need_setup := Sh.def_mk KX G ?a55 ?l55 ?c55 ?k55 Sh.bd_need_setup, d_houses_in := Sh.def_mk KX G ?a56 ?l56 ?c56 ?k56 Sh.bd_houses_in, d_first_state := Sh.def_mk KX G ?a57 ?l57 ?c57 ?k57 Sh.bd_first_state, d_with_letters := Sh.def_mk KX G ?a58 ?l58 ?c58 ?k58 Sh.bd_with_letters, d_began := Sh.def_mk KX G ?a59 ?l59 ?c59 ?k59 Sh.bd_began, d_ticked := Sh.def_mk KX G ?a60 ?l60 ?c60 ?k60 Sh.bd_ticked, d_delivered := Sh.def_mk KX G ?a61 ?l61 ?c61 ?k61 Sh.bd_delivered, d_step := Sh.def_mk KX G ?a62 ?l62 ?c62 ?k62 Sh.bd_step, d_is_event := Sh.def_mk KX G ?a63 ?l63 ?c63 ?k63 Sh.bd_is_event, d_events_of := Sh.def_mk KX G ?a64 ?l64 ?c64 ?k64 Sh.bd_events_of, d_things_in := Sh.def_mk KX G ?a66 ?l66 ?c66 ?k66 Sh.bd_things_in, d_coins_in := Sh.def_mk KX G ?a67 ?l67 ?c67 ?k67 Sh.bd_coins_in, d_row_of := Sh.def_mk KX G ?a72 ?l72 ?c72 ?k72 Sh.bd_row_of, d_deal_faults := Sh.def_mk KX G ?a73 ?l73 ?c73 ?k73 Sh.bd_deal_faults, d_end_faults := Sh.def_mk KX G ?a74 ?l74 ?c74 ?k74 Sh.bd_end_faults, d_faults_in := Sh.def_mk KX G ?a75 ?l75 ?c75 ?k75 Sh.bd_faults_in, d_is_log := Sh.def_mk KX G ?a76 ?l76 ?c76 ?k76 Sh.bd_is_log, d_is_state := Sh.def_mk KX G ?a77 ?l77 ?c77 ?k77 Sh.bd_is_state, d_faults := Sh.def_mk KX G ?a78 ?l78 ?c78 ?k78 Sh.bd_faults, d_audit := Sh.def_mk KX G ?a79 ?l79 ?c79 ?k79 Sh.bd_audit, d_law_taken := Sh.def_mk KX G ?a81 ?l81 ?c81 ?k81 Sh.bd_law_taken, d_law_pick := Sh.def_mk KX G ?a82 ?l82 ?c82 ?k82 Sh.bd_law_pick, d_law_alike := Sh.def_mk KX G ?a83 ?l83 ?c83 ?k83 Sh.bd_law_alike, d_law_deals := Sh.def_mk KX G ?a84 ?l84 ?c84 ?k84 Sh.bd_law_deals, d_law_words := Sh.def_mk KX G ?a85 ?l85 ?c85 ?k85 Sh.bd_law_words, d_law_fine := Sh.def_mk KX G ?a86 ?l86 ?c86 ?k86 Sh.bd_law_fine }, Sh.table_mk (ks := ["begun", "go", "drop", "return"]) KX G ?n_ASKS ?d_ASKS ?o_ASKS, Sh.table_mk (ks := ["begun", "go", "drop", "return"]) KX G ?n_GOODS ?d_GOODS ?o_GOODS⟩ (Sh.world_mk KX G ?aC ?wa1 ?wi1 ?wl1 ?wc1 ?wk1 ?wa2 ?wi2 ?wl2 ?wc2 ?wk2 ?wa3 ?wi3 ?wl3 ?wc3 ?wk3 ?pg ?hd ?po ?sa ?mk ?kc ?nS ?nT ?nP) (Sh.bad_mk KX G ?bn ?bx ?bk ?bb ?bt ?be) ?la ?ll ?lc ?lk
    (case z_len => k_is)
    (case z_all => k_is)
    (case z_any => k_is)
    (case z_tuple => k_is)
    (case z_list => k_is)
    (case z_dict => k_is)
    (case z_set => k_is)
    (case z_sorted => k_is)
    (case z_min => k_is)
    (case z_sum => k_is)
    (case z_int => k_is)
    (case z_str => k_is)
    (case z_isinstance => k_is)
    (case z_range => k_is)
    (case z_zip => k_is)
    (case z_bool => k_is)
    (case z_ValueError => k_is)
    (case n_RESERVED => k_is)
    (case o_RESERVED => kernel_rfl)
    (case n_SENT => k_is)
    (case o_SENT => kernel_rfl)
    (case n_RELEASED => k_is)
    (case o_RELEASED => kernel_rfl)
    (case n_BACK => k_is)
    (case o_BACK => kernel_rfl)
    (case n_HELD => k_is)
    (case o_HELD => kernel_rfl)
    (case n_TAKEN => k_is)
    (case o_TAKEN => kernel_rfl)
    (case n_FREED => k_is)
    (case o_FREED => kernel_rfl)
    (case n_REFUNDED => k_is)
    (case o_REFUNDED => kernel_rfl)
    (case n_BANK => k_is)
    (case o_BANK => kernel_rfl)
    (case n_BEGUN => k_is)
    (case o_BEGUN => kernel_rfl)
    (case n_GO => k_is)
    (case o_GO => kernel_rfl)
    (case n_DROP => k_is)
    (case o_DROP => kernel_rfl)
    (case n_ENDED => k_is)
    (case o_ENDED => kernel_rfl)
    (case n_RETURN => k_is)
    (case o_RETURN => kernel_rfl)
    (case n_RETURNED => k_is)
    (case o_RETURNED => kernel_rfl)
    (case n_SHOP => k_is)
    (case o_SHOP => kernel_rfl)
    (case n_SMALL => k_is)
    (case o_SMALL => kernel_rfl)
    (case n_FIGURES => k_is)
    (case o_FIGURES => kernel_rfl)
    (case n_ROWS => k_is)
    (case o_ROWS => kernel_rfl)
    (case n_HOUSE_ROWS => k_is)
    (case o_HOUSE_ROWS => kernel_rfl)
    (case n_BANK_ROWS => k_is)
    (case o_BANK_ROWS => kernel_rfl)
    (case n_BADS => k_is)
    (case o_BADS => kernel_rfl)
    (case a6 => k_is)
    (case l6 => k_is)
    (case c6 => k_is)
    (case k6 => k_is)
    (case a7 => k_is)
    (case l7 => k_is)
    (case c7 => k_is)
    (case k7 => k_is)
    (case a8 => k_is)
    (case l8 => k_is)
    (case c8 => k_is)
    (case k8 => k_is)
    (case a9 => k_is)
    (case l9 => k_is)
    (case c9 => k_is)
    (case k9 => k_is)
    (case a10 => k_is)
    (case l10 => k_is)
    (case c10 => k_is)
    (case k10 => k_is)
    (case a11 => k_is)
    (case l11 => k_is)
    (case c11 => k_is)
    (case k11 => k_is)
    (case a17 => k_is)
    (case l17 => k_is)
    (case c17 => k_is)
    (case k17 => k_is)
    (case a18 => k_is)
    (case l18 => k_is)
    (case c18 => k_is)
    (case k18 => k_is)
    (case a19 => k_is)
    (case l19 => k_is)
    (case c19 => k_is)
    (case k19 => k_is)
    (case a35 => k_is)
    (case l35 => k_is)
    (case c35 => k_is)
    (case k35 => k_is)
    (case a36 => k_is)
    (case l36 => k_is)
    (case c36 => k_is)
    (case k36 => k_is)
    (case a37 => k_is)
    (case l37 => k_is)
    (case c37 => k_is)
    (case k37 => k_is)
    (case a38 => k_is)
    (case l38 => k_is)
    (case c38 => k_is)
    (case k38 => k_is)
    (case a39 => k_is)
    (case l39 => k_is)
    (case c39 => k_is)
    (case k39 => k_is)
    (case a40 => k_is)
    (case l40 => k_is)
    (case c40 => k_is)
    (case k40 => k_is)
    (case a41 => k_is)
    (case l41 => k_is)
    (case c41 => k_is)
    (case k41 => k_is)
    (case a42 => k_is)
    (case l42 => k_is)
    (case c42 => k_is)
    (case k42 => k_is)
    (case a46 => k_is)
    (case l46 => k_is)
    (case c46 => k_is)
    (case k46 => k_is)
    (case a47 => k_is)
    (case l47 => k_is)
    (case c47 => k_is)
    (case k47 => k_is)
    (case a48 => k_is)
    (case l48 => k_is)
    (case c48 => k_is)
    (case k48 => k_is)
    (case a49 => k_is)
    (case l49 => k_is)
    (case c49 => k_is)
    (case k49 => k_is)
    (case a52 => k_is)
    (case l52 => k_is)
    (case c52 => k_is)
    (case k52 => k_is)
    (case a53 => k_is)
    (case l53 => k_is)
    (case c53 => k_is)
    (case k53 => k_is)
    (case a54 => k_is)
    (case l54 => k_is)
    (case c54 => k_is)
    (case k54 => k_is)
    (case a55 => k_is)
    (case l55 => k_is)
    (case c55 => k_is)
    (case k55 => k_is)
    (case a56 => k_is)
    (case l56 => k_is)
    (case c56 => k_is)
    (case k56 => k_is)
    (case a57 => k_is)
    (case l57 => k_is)
    (case c57 => k_is)
    (case k57 => k_is)
    (case a58 => k_is)
    (case l58 => k_is)
    (case c58 => k_is)
    (case k58 => k_is)
    (case a59 => k_is)
    (case l59 => k_is)
    (case c59 => k_is)
    (case k59 => k_is)
    (case a60 => k_is)
    (case l60 => k_is)
    (case c60 => k_is)
    (case k60 => k_is)
    (case a61 => k_is)
    (case l61 => k_is)
    (case c61 => k_is)
    (case k61 => k_is)
    (case a62 => k_is)
    (case l62 => k_is)
    (case c62 => k_is)
    (case k62 => k_is)
    (case a63 => k_is)
    (case l63 => k_is)
    (case c63 => k_is)
    (case k63 => k_is)
    (case a64 => k_is)
    (case l64 => k_is)
    (case c64 => k_is)
    (case k64 => k_is)
    (case a66 => k_is)
    (case l66 => k_is)
    (case c66 => k_is)
    (case k66 => k_is)
    (case a67 => k_is)
    (case l67 => k_is)
    (case c67 => k_is)
    (case k67 => k_is)
    (case a72 => k_is)
    (case l72 => k_is)
    (case c72 => k_is)
    (case k72 => k_is)
    (case a73 => k_is)
    (case l73 => k_is)
    (case c73 => k_is)
    (case k73 => k_is)
    (case a74 => k_is)
    (case l74 => k_is)
    (case c74 => k_is)
    (case k74 => k_is)
    (case a75 => k_is)
    (case l75 => k_is)
    (case c75 => k_is)
    (case k75 => k_is)
    (case a76 => k_is)
    (case l76 => k_is)
    (case c76 => k_is)
    (case k76 => k_is)
    (case a77 => k_is)
    (case l77 => k_is)
    (case c77 => k_is)
    (case k77 => k_is)
    (case a78 => k_is)
    (case l78 => k_is)
    (case c78 => k_is)
    (case k78 => k_is)
    (case a79 => k_is)
    (case l79 => k_is)
    (case c79 => k_is)
    (case k79 => k_is)
    (case a81 => k_is)
    (case l81 => k_is)
    (case c81 => k_is)
    (case k81 => k_is)
    (case a82 => k_is)
    (case l82 => k_is)
    (case c82 => k_is)
    (case k82 => k_is)
    (case a83 => k_is)
    (case l83 => k_is)
    (case c83 => k_is)
    (case k83 => k_is)
    (case a84 => k_is)
    (case l84 => k_is)
    (case c84 => k_is)
    (case k84 => k_is)
    (case a85 => k_is)
    (case l85 => k_is)
    (case c85 => k_is)
    (case k85 => k_is)
    (case a86 => k_is)
    (case l86 => k_is)
    (case c86 => k_is)
    (case k86 => k_is)
    (case n_ASKS => k_is)
    (case d_ASKS => kernel_rfl)
    (case o_ASKS => kernel_rfl)
    (case n_GOODS => k_is)
    (case d_GOODS => kernel_rfl)
    (case o_GOODS => kernel_rfl)
    (case aC => k_is)
    (case wa1 => k_is)
    (case wi1 => k_is)
    (case wl1 => k_is)
    (case wc1 => k_is)
    (case wk1 => k_is)
    (case wa2 => k_is)
    (case wi2 => k_is)
    (case wl2 => k_is)
    (case wc2 => k_is)
    (case wk2 => k_is)
    (case wa3 => k_is)
    (case wi3 => k_is)
    (case wl3 => k_is)
    (case wc3 => k_is)
    (case wk3 => k_is)
    (case pg => k_is)
    (case hd => k_is)
    (case po => k_is)
    (case sa => k_is)
    (case mk => k_is)
    (case kc => k_is)
    (case nS => k_is)
    (case nT => k_is)
    (case nP => k_is)
    (case bn => k_is)
    (case bx => kernel_rfl)
    (case bk => k_is)
    (case bb => k_is)
    (case bt => k_is)
    (case be => kernel_rfl)
    (case la => k_is)
    (case ll => k_is)
    (case lc => k_is)
    (case lk => k_is)
